import PyProof.Rows.All
import Wide.All
import OpenK.AllK
import Wide.FinOn
import HandS.ForMost
import HandS.Exc
import HandS.ExcInit
import HandS.IsInst
import HandS.Gcd
import HandS.Wide
import HandS.Flow
import HandS.Zip
import HandS.WordsExc
import HandS.Walk
import HandS.ExcField
import HandS.ExcCtx
import HandS.HotCalls
import HandS.Text
import HandS.Property
import HandS.More
import HandS.Conv
import HandS.SortKw
import KE.DatumOrd
import PySem.Str
import HandS.Defaults
import HandS.FStr
import HandS.Style
import HandS.Codes
import HandS.StrMore
import HandS.Iter
import HandS.OwnEq
import HandS.MakeKwOnly
import Wide.Txt
import PySem.Challenge.RW_callsleft_k01_formulas_read_and_put_in
set_option Elab.async false
set_option Elab.async false
set_option linter.all false
set_option maxRecDepth 100000
set_option maxHeartbeats 1000000
/-! # A layer of values: what a reading evaluates to, by a relation between values and things of plain Lean -/
namespace Y
open PySem L2

/-! ### heaps -/
def Ex (H H' : Hp) : Prop := ∀ a o, H a = some o → H' a = some o
theorem Ex.refl (H : Hp) : Ex H H := fun _ _ h => h
theorem Ex.trans {H H1 H2 : Hp} (a : Ex H H1) (b : Ex H1 H2) : Ex H H2 := fun x o h => b x o (a x o h)
theorem Ex.new {H : Hp} {p : Addr} {o : HO} (h : H p = none) : Ex H (upd H p o) := fun a u e => by
  rw [upd_ne (ne_of_none e h)]
  exact e
theorem Ex.free {H H' : Hp} (e : Ex H H') {p : Addr} (h : H' p = none) : H p = none := by
  cases h1 : H p with
  | none => rfl
  | some o => rw [e p o h1] at h; cases h
theorem Ex.mut {H H' : Hp} {p : Addr} {o : HO} (e : Ex H H') (h : H p = none) : Ex H (upd H' p o) := fun a u ha => by
  rw [upd_ne (ne_of_none ha h)]
  exact e a u ha
theorem Ex.put {H H' : Hp} {p : Addr} {o : HO} (e : Ex H H') (h : H' p = some o) : Ex (upd H p o) H' := fun a u ha => by
  by_cases z : a = p
  · subst z; rw [upd_same] at ha; cases ha; exact h
  · rw [upd_ne z] at ha; exact e a u ha
/-- what is known grows from K to F, while the heap grows from H to H': all that F knows further is new -/
structure Grow (K H F H' : Hp) : Prop where
  h : Ex H H'
  k : Ex K F
  f : Ex F H'
  n : ∀ a, K a = none → F a ≠ none → H a = none
theorem Grow.refl {K H : Hp} (e : Ex K H) : Grow K H K H := ⟨Ex.refl H, Ex.refl K, e, fun _ h1 h2 => absurd h1 h2⟩
theorem Grow.of {K H H' : Hp} (e : Ex K H) (h : Ex H H') : Grow K H K H' := ⟨h, Ex.refl K, e.trans h, fun _ h1 h2 => absurd h1 h2⟩
theorem Grow.trans {K H F H1 F' H2 : Hp} (a : Grow K H F H1) (b : Grow F H1 F' H2) : Grow K H F' H2 :=
  ⟨a.h.trans b.h, a.k.trans b.k, b.f, fun x h1 h2 => by
    cases e : F x with
    | none => exact a.h.free (b.n x e h2)
    | some o => exact a.n x h1 (by rw [e]; exact fun z => nomatch z)⟩
theorem Grow.kh {K H F H' : Hp} (g : Grow K H F H') : Ex K H' := g.k.trans g.f
/-- a new object -/
theorem Grow.new {K H F H' : Hp} (g : Grow K H F H') {p : Addr} {o : HO} (hp : H' p = none) : Grow K H (upd F p o) (upd H' p o) := by
  have fp : F p = none := g.f.free hp
  refine ⟨g.h.trans (Ex.new hp), g.k.trans (Ex.new fp), fun a u e => ?_, fun a h1 h2 => ?_⟩
  · by_cases z : a = p
    · subst z; rw [upd_same] at e ⊢; exact e
    · rw [upd_ne z] at e ⊢; exact g.f a u e
  · by_cases z : a = p
    · subst z; exact g.h.free hp
    · rw [upd_ne z] at h2; exact g.n a h1 h2
def join (F G : Hp) : Hp := fun a => match F a with | some o => some o | none => G a
theorem Ex.joinl (F G : Hp) : Ex F (join F G) := fun a o h => by unfold join; rw [h]
theorem Ex.joinr {F G H : Hp} (f : Ex F H) (g : Ex G H) : Ex G (join F G) := fun a o h => by
  unfold join
  cases e : F a with
  | none => exact h
  | some u =>
    have h1 := f a u e
    have h2 := g a o h
    rw [h1] at h2
    exact h2
theorem Ex.joint {F G H : Hp} (f : Ex F H) (g : Ex G H) : Ex (join F G) H := fun a o h => by
  unfold join at h
  cases e : F a with
  | none => rw [e] at h; exact g a o h
  | some u => rw [e] at h; cases h; exact f a _ e
/-- less is known ahead: more is known behind -/
theorem Grow.mono {K K' H F H' : Hp} (e : Ex K K') (eh : Ex K' H) (g : Grow K H F H') : Grow K' H (join K' F) H' :=
  ⟨g.h, Ex.joinl _ _, Ex.joint (eh.trans g.h) g.f, fun a h1 h2 => by
    unfold join at h2
    rw [h1] at h2
    exact g.n a (e.free h1) h2⟩

/-! ### what stands for what -/
abbrev Rp (α : Type) := Hp → V → α → Prop
class Mono {α : Type} (r : Rp α) : Prop where
  mono : ∀ {H H' v x}, Ex H H' → r H v x → r H' v x
theorem up {α : Type} {r : Rp α} [Mono r] {H H' : Hp} {v : V} {x : α} (e : Ex H H') (h : r H v x) : r H' v x := Mono.mono e h
theorem p_imp {α β : Type} {F G : α → β → Prop} (h : ∀ a b, F a b → G a b) : ∀ {xs ys}, Paired F xs ys → Paired G xs ys
  | _, _, .nil => .nil
  | _, _, .cons a t => .cons (h _ _ a) (p_imp h t)
theorem p_at {α β : Type} {F : α → β → Prop} : ∀ {xs : List α} {ys : List β} {i : Nat} {y : β}, Paired F xs ys → ys[i]? = some y → ∃ x, xs[i]? = some x ∧ F x y
  | _, _, _, _, .nil, e => by simp at e
  | _, _, 0, _, .cons r _, e => by simp at e; subst e; exact ⟨_, rfl, r⟩
  | _, _, i + 1, _, .cons _ t, e => by
    obtain ⟨u, h1, h2⟩ := p_at t (by simpa using e)
    exact ⟨u, by simpa using h1, h2⟩
theorem p_atl {α β : Type} {F : α → β → Prop} : ∀ {xs : List α} {ys : List β} {i : Nat} {x : α}, Paired F xs ys → xs[i]? = some x → ∃ y, ys[i]? = some y ∧ F x y
  | _, _, _, _, .nil, e => by simp at e
  | _, _, 0, _, .cons r _, e => by simp at e; subst e; exact ⟨_, rfl, r⟩
  | _, _, i + 1, _, .cons _ t, e => by
    obtain ⟨u, h1, h2⟩ := p_atl t (by simpa using e)
    exact ⟨u, by simpa using h1, h2⟩
theorem p_app {α β : Type} {F : α → β → Prop} : ∀ {xs xs' : List α} {ys ys' : List β}, Paired F xs ys → Paired F xs' ys' → Paired F (xs ++ xs') (ys ++ ys')
  | _, _, _, _, .nil, h => h
  | _, _, _, _, .cons a t, h => .cons a (p_app t h)
theorem p_take {α β : Type} {F : α → β → Prop} : ∀ (n : Nat) {xs : List α} {ys : List β}, Paired F xs ys → Paired F (xs.take n) (ys.take n)
  | 0, _, _, _ => .nil
  | _ + 1, _, _, .nil => .nil
  | n + 1, _, _, .cons a t => .cons a (p_take n t)
theorem p_drop {α β : Type} {F : α → β → Prop} : ∀ (n : Nat) {xs : List α} {ys : List β}, Paired F xs ys → Paired F (xs.drop n) (ys.drop n)
  | 0, _, _, h => h
  | _ + 1, _, _, .nil => .nil
  | n + 1, _, _, .cons _ t => p_drop n t
theorem p_len {α β : Type} {F : α → β → Prop} {xs : List α} {ys : List β} (h : Paired F xs ys) : xs.length = ys.length := Paired.length h
theorem p_up {α : Type} {r : Rp α} [Mono r] {H H' : Hp} {vs : List V} {xs : List α} (e : Ex H H') (h : Paired (r H) vs xs) : Paired (r H') vs xs := p_imp (fun _ _ q => up e q) h

def rInt : Rp Int := fun _ v x => v = .int x
def rBl : Rp Bool := fun _ v x => v = .bl x
def rStr : Rp Str := fun _ v x => v = .str x
def rNon : Rp Unit := fun _ v _ => v = .non
def rV : Rp V := fun _ v x => v = x
/-- a fraction, a tuple of top and bottom -/
def rQ (K : PySem.W.Frag) : Rp Rat := fun H v q => ∃ a, v = .ref a ∧ SqT K H a [.int q.num, .int (q.den : Int)]
def rLst {α : Type} (r : Rp α) : Rp (List α) := fun H v xs => ∃ a vs, v = .ref a ∧ H a = some (.lst vs) ∧ Paired (r H) vs xs
/-- an instance of the class at C with top and bottom -/
def rRat (C : Addr) : Rp Rat := fun H v q => ∃ a dx, v = .ref a ∧ H a = some (.ins C dx [(("top" : Str), .int q.num), (("bottom" : Str), .int (q.den : Int))])
/-- a whole number, or a Ratio -/
def rNum (C : Addr) : Rp Rat := fun H v q => (v = .int q.num ∧ q.den = 1) ∨ rRat C H v q
instance : Mono rInt := ⟨fun _ h => h⟩
instance : Mono rBl := ⟨fun _ h => h⟩
instance : Mono rStr := ⟨fun _ h => h⟩
instance : Mono rNon := ⟨fun _ h => h⟩
instance : Mono rV := ⟨fun _ h => h⟩
theorem ex_t {K : PySem.W.Frag} {H H' : Hp} {a : Addr} {xs : List V} (e : Ex H H') (h : SqT K H a xs) : SqT K H' a xs := by
  rcases h with (h | ⟨o, h⟩) | h
  · exact Or.inl (Or.inl (e a _ h))
  · exact Or.inl (Or.inr ⟨o, e a _ h⟩)
  · exact Or.inr h
theorem ex_l {K : PySem.W.Frag} {H H' : Hp} {a : Addr} {xs : List V} (e : Ex H H') (h : SqL K H a xs) : SqL K H' a xs := by
  rcases h with (h | ⟨o, h⟩) | h
  · exact Or.inl (Or.inl (e a _ h))
  · exact Or.inl (Or.inr ⟨o, e a _ h⟩)
  · exact Or.inr h
theorem sq_of {K : PySem.W.Frag} {H : Hp} {a : Addr} {xs : List V} (h : H a = some (.lst xs)) : SqL K H a xs := Or.inl (Or.inl h)
theorem st_of {K : PySem.W.Frag} {H : Hp} {a : Addr} {xs : List V} (h : H a = some (.tup xs)) : SqT K H a xs := Or.inl (Or.inl h)
instance {K : PySem.W.Frag} : Mono (rQ K) := ⟨fun e ⟨a, h1, h2⟩ => ⟨a, h1, ex_t e h2⟩⟩
instance {α : Type} {r : Rp α} [Mono r] : Mono (rLst r) := ⟨fun e ⟨a, vs, h1, h2, h3⟩ => ⟨a, vs, h1, e a _ h2, p_up e h3⟩⟩
instance {C : Addr} : Mono (rRat C) := ⟨fun e ⟨a, dx, h1, h2⟩ => ⟨a, dx, h1, e a _ h2⟩⟩
instance {C : Addr} : Mono (rNum C) := ⟨fun e h => h.imp id (up e)⟩
/-- what does not lean on a list at o -/
def del (F : Hp) (o : Addr) : Hp := fun a => if a = o then none else F a
theorem del_ne {F : Hp} {o a : Addr} (h : a ≠ o) : del F o a = F a := if_neg h
theorem del_same {F : Hp} {o : Addr} : del F o o = none := if_pos rfl
class Flat {α : Type} (r : Rp α) : Prop where
  flat : ∀ {F o xs v x}, F o = some (.lst xs) → r F v x → r (del F o) v x
instance : Flat rInt := ⟨fun _ h => h⟩
instance : Flat rBl := ⟨fun _ h => h⟩
instance : Flat rStr := ⟨fun _ h => h⟩
instance : Flat rV := ⟨fun _ h => h⟩
theorem del_at {F : Hp} {o a : Addr} {xs : List V} {u : HO} (h : F o = some (.lst xs)) (ha : F a = some u) (hu : ∀ ys, u ≠ .lst ys) : del F o a = some u := by
  have : a ≠ o := fun z => by subst z; rw [h] at ha; cases ha; exact hu _ rfl
  rw [del_ne this]; exact ha
instance {K : PySem.W.Frag} : Flat (rQ K) := ⟨fun {F o xs v x} h ⟨a, h1, h2⟩ => ⟨a, h1, by
  rcases h2 with (h2 | ⟨u, h2⟩) | h2
  · exact Or.inl (Or.inl (del_at h h2 (fun _ z => nomatch z)))
  · exact Or.inl (Or.inr ⟨u, del_at h h2 (fun _ z => nomatch z)⟩)
  · exact Or.inr h2⟩⟩
instance {C : Addr} : Flat (rRat C) := ⟨fun h ⟨a, dx, h1, h2⟩ => ⟨a, dx, h1, del_at h h2 (fun _ z => nomatch z)⟩⟩
instance {C : Addr} : Flat (rNum C) := ⟨fun h q => q.imp id (Flat.flat h)⟩
/-- an own list was read as if it stood still; what comes of it does not lean on it -/
theorem Grow.undo {K H F H' : Hp} {o : Addr} {xs : List V} (hk : K o = none) (g : Grow (upd K o (.lst xs)) H F H') : F o = some (.lst xs) ∧ Grow K H (del F o) H' := by
  have fo : F o = some (.lst xs) := g.k o _ upd_same
  refine ⟨fo, g.h, fun a u e => ?_, fun a u e => ?_, fun a h1 h2 => ?_⟩
  · have n : a ≠ o := fun z => by subst z; rw [hk] at e; cases e
    rw [del_ne n]; exact g.k a u (by rw [upd_ne n]; exact e)
  · by_cases n : a = o
    · subst n; rw [del_same] at e; cases e
    · rw [del_ne n] at e; exact g.f a u e
  · by_cases n : a = o
    · subst n; exact absurd del_same h2
    · rw [del_ne n] at h2; exact g.n a (by rw [upd_ne n]; exact h1) h2

/-! ### named forms of what built-in calls ask -/
def rAbs : List V → Hp → VK → Prop := fun xs H Q => ∃ i, xs = [.int i] ∧ Q (.int (if i < 0 then -i else i)) H
def rToInt : List V → Hp → VK → Prop := fun xs H Q => (∃ i, xs = [.int i] ∧ Q (.int i) H) ∨ ∃ k, xs = [.bl k] ∧ Q (.int (if k then 1 else 0)) H
def rLen (K : PySem.W.Frag) : List V → Hp → VK → Prop := fun xs H Q => ∃ p ys, xs = [.ref p] ∧ (SqL K H p ys ∨ SqT K H p ys) ∧ Q (.int ys.length) H
def rList (K : PySem.W.Frag) : List V → Hp → VK → Prop := fun xs H Q => ∃ p ys, xs = [.ref p] ∧ (SqL K H p ys ∨ SqT K H p ys) ∧ ∀ l, H l = none → Q (.ref l) (upd H l (.lst ys))
theorem c_abs {X : Cx} : CallR X (.builtin "abs") rAbs := call_abs
theorem c_toInt {X : Cx} : CallR X (.type "int") rToInt := call_int1
theorem c_len {X : Cx} : CallR X (.builtin "len") (rLen X.K) := call_len_seq
theorem c_list {X : Cx} : CallR X (.type "list") (rList X.K) := call_list_of
/-! ### rules with the written part told -/
section
variable {X : Cx} {K : PySem.W.Frag}
theorem ix_tupK (h : X.K = K) : IxR X (rIxT K) := h ▸ ix_tup
theorem ix_listK (h : X.K = K) : IxR X (rIxL K) := h ▸ ix_list
theorem c_lenK (h : X.K = K) : CallR X (.builtin "len") (rLen K) := h ▸ c_len
theorem c_listK (h : X.K = K) : CallR X (.type "list") (rList K) := h ▸ c_list
theorem c_isiK (h : X.K = K) : CallR X (.builtin "isinstance") (rIsi K) := h ▸ call_isi
theorem c_sumK (h : X.K = K) (hc : X.calm = true) : CallR X (.builtin "sum") (rSum K) := h ▸ cr_sum hc
theorem sl_listK (h : X.K = K) : SlR X (rSlL K) := h ▸ sl_list
theorem pe_fldK {e : Expr} {ta : TE} {f : Str} {pos : Pos} (h : X.K = K) (he : PE X e ta) (hb : attributeBase e f X.env (eval e X.env) = eval e X.env) : PE X (.Attribute e f pos) (tFld K ta f) := h ▸ pe_fld he hb
end
/-- the scope of a comprehension that a def returns -/
def retLcScope (body : List Stmt) (i : Nat) : Scope := match body.getD i (.Pass ⟨0, 0, 0, 0⟩) with
  | .Return (some (.ListComp _ _ sc _)) _ => sc
  | _ => { kind := .module, names := [], isGenerator := false, isCoroutine := false }
/-- the same as it stands within the def -/
def inScope (scope sc : Scope) : Scope := { scope with names := scope.names.map fun (n, k) => if (k == .free && sc.kind == .function && sc.names.lookup n == some .cell) then (n, .cell) else (n, k) }
/-! ### readings -/
def E {α : Type} (r : Rp α) (te : TE) (σ : L2.St) (K : Hp) (x : α) : Prop := ∀ H, Ex K H → ∀ Q : VK, (∀ v H2 F, Grow K H F H2 → r F v x → Q v H2) → te σ H Q
/-- a new list -/
def EN {α : Type} (r : Rp α) (te : TE) (σ : L2.St) (K : Hp) (xs : List α) : Prop := ∀ H, Ex K H → ∀ Q : VK, (∀ p vs H2 F, Grow K H F H2 → F p = none → H p = none → H2 p = some (.lst vs) → Paired (r F) vs xs → Q (.ref p) H2) → te σ H Q
def T (tt : TT) (σ : L2.St) (K : Hp) (b : Bool) : Prop := ∀ H, Ex K H → ∀ Q : Bool → Hp → Prop, (∀ H2, Ex H H2 → Q b H2) → tt σ H Q
abbrev PP := Hp → List V → Prop
class MonoP (P : PP) : Prop where
  mono : ∀ {H H' vs}, Ex H H' → P H vs → P H' vs
def EA (P : PP) (ta : TA) (σ : L2.St) (K : Hp) : Prop := ∀ H, Ex K H → ∀ Q : List V → Hp → Prop, (∀ vs H2 F, Grow K H F H2 → P F vs → Q vs H2) → ta σ H Q
def pNil : PP := fun _ vs => vs = []
def pCons {α : Type} (r : Rp α) (x : α) (P : PP) : PP := fun H vs => ∃ v ws, vs = v :: ws ∧ r H v x ∧ P H ws
instance : MonoP pNil := ⟨fun _ h => h⟩
instance {α : Type} {r : Rp α} {x : α} {P : PP} [Mono r] [MonoP P] : MonoP (pCons r x P) := ⟨fun e ⟨v, ws, h1, h2, h3⟩ => ⟨v, ws, h1, up e h2, MonoP.mono e h3⟩⟩

section
variable {α β : Type} {r : Rp α} {s : Rp β} {σ : L2.St} {K K' H : Hp} {ta tb te : TE} {t u : TT} {x : α} {y : β}
theorem E.mono [Mono r] (e : Ex K K') (h : E r te σ K x) : E r te σ K' x := fun H a Q q => h H (e.trans a) Q fun v H2 F g hv => q v H2 _ (g.mono e a) (up (Ex.joinr (a.trans g.h) g.f) hv)
theorem T.mono {b : Bool} (e : Ex K K') (h : T t σ K b) : T t σ K' b := fun H a Q q => h H (e.trans a) Q q
theorem EA.mono {P : PP} [MonoP P] {ta : TA} (e : Ex K K') (h : EA P ta σ K) : EA P ta σ K' := fun H a Q q => h H (e.trans a) Q fun v H2 F g hv => q v H2 _ (g.mono e a) (MonoP.mono (Ex.joinr (a.trans g.h) g.f) hv)
theorem EN.e [Mono r] {xs : List α} (h : EN r te σ K xs) : E (rLst r) te σ K xs := fun H a Q q => h H a Q fun p vs H2 F g fp hp h2 hv => by
  refine q (.ref p) H2 (upd F p (.lst vs)) ⟨g.h, g.k.trans (Ex.new fp), Ex.put g.f h2, fun b h1 h3 => ?_⟩ ⟨p, vs, rfl, upd_same, p_up (Ex.new fp) hv⟩
  by_cases z : b = p
  · subst z; exact hp
  · rw [upd_ne z] at h3; exact g.n b h1 h3
theorem EN.mono [Mono r] {xs : List α} (e : Ex K K') (h : EN r te σ K xs) : EN r te σ K' xs := fun H a Q q => h H (e.trans a) Q fun p vs H2 F g fp hp h2 hv =>
  q p vs H2 _ (g.mono e a) (by
    unfold join
    cases z : K' p with
    | none => exact fp
    | some o => have := a p o z; rw [hp] at this; cases this) hp h2 (p_up (Ex.joinr (a.trans g.h) g.f) hv)
/-- an own list at o, read as if it stood still -/
theorem E.own [Flat r] {o : Addr} {xs : List V} (hk : K o = none) (h : E r te σ (upd K o (.lst xs)) x) : ∀ H, Ex K H → H o = some (.lst xs) → ∀ Q : VK, (∀ v H2 F, Grow K H F H2 → r F v x → Q v H2) → te σ H Q :=
  fun H a ho Q q => h H (a.put ho) Q fun v H2 F g hv => by
    obtain ⟨f1, f2⟩ := g.undo hk
    exact q v H2 _ f2 (Flat.flat f1 hv)

theorem e_var {v : V} {i : Nat} (h : r K v x) (hi : σ[i]? = some (some v)) : E r (tVar i) σ K x := fun H a _ q => ⟨v, hi, q v H K (Grow.refl a) h⟩
theorem e_c {v : V} (h : r K v x) : E r (tC v) σ K x := fun H a _ q => q v H K (Grow.refl a) h
theorem e_int {n : Int} : E rInt (tC (.int n)) σ K n := e_c rfl
theorem e_bl {b : Bool} : E rBl (tC (.bl b)) σ K b := e_c rfl
theorem e_str {z : Str} : E rStr (tC (.str z)) σ K z := e_c rfl
theorem E.as {x' : α} (h : E r te σ K x) (e : x = x') : E r te σ K x' := e ▸ h
theorem T.as {b b' : Bool} (h : T t σ K b) (e : b = b') : T t σ K b' := e ▸ h
theorem EN.as {xs xs' : List α} (h : EN r te σ K xs) (e : xs = xs') : EN r te σ K xs' := e ▸ h
/-- two operands -/
theorem two [Mono r] [Mono s] (ha : E r ta σ K x) (hb : E s tb σ K y) : ∀ H, Ex K H → ∀ Q : V → V → Hp → Prop, (∀ v w H2 F, Grow K H F H2 → r F v x → s F w y → Q v w H2) → ta σ H fun v H1 => tb σ H1 fun w H2 => Q v w H2 :=
  fun H a Q q => ha H a _ fun v H1 F g hv => (hb.mono g.k) H1 g.f _ fun w H2 F2 g2 hw => q v w H2 F2 (g.trans g2) (up g2.k hv) hw
theorem e_i0 {f : Int → Int → Int} {i j : Int} (ha : E rInt ta σ K i) (hb : E rInt tb σ K j) : E rInt (tOp (rI0 fun i j => .int (f i j)) ta tb) σ K (f i j) :=
  fun H a Q q => two ha hb H a _ fun v w H2 F g hv hw => ⟨i, j, hv, hw, q _ H2 F g rfl⟩
theorem e_i {C : Int → Int → Prop} {f : Int → Int → Int} {i j : Int} (ha : E rInt ta σ K i) (hb : E rInt tb σ K j) (hc : C i j) : E rInt (tOp (rI C fun i j => .int (f i j)) ta tb) σ K (f i j) :=
  fun H a Q q => two ha hb H a _ fun v w H2 F g hv hw => ⟨i, j, hv, hw, hc, q _ H2 F g rfl⟩
theorem e_un {f : Int → Int} {i : Int} (ha : E rInt ta σ K i) : E rInt (tUn (rU fun i => .int (f i)) ta) σ K (f i) :=
  fun H a Q q => ha H a _ fun v H2 F g hv => ⟨i, hv, q _ H2 F g rfl⟩
theorem e_b0 {p : Int → Int → Bool} {i j : Int} (ha : E rInt ta σ K i) (hb : E rInt tb σ K j) : E rBl (tOp (rI0 fun i j => .bl (p i j)) ta tb) σ K (p i j) :=
  fun H a Q q => two ha hb H a _ fun v w H2 F g hv hw => ⟨i, j, hv, hw, q _ H2 F g rfl⟩
theorem e_eqI {i j : Int} (ha : E rInt ta σ K i) (hb : E rInt tb σ K j) : E rBl (tOp rEq ta tb) σ K (decide (i = j)) :=
  fun H a Q q => two ha hb H a _ fun v w H2 F g hv hw => by
    cases hv; cases hw
    refine ⟨rfl, q _ H2 F g ?_⟩
    show V.bl _ = V.bl _
    simp
theorem e_neI {i j : Int} (ha : E rInt ta σ K i) (hb : E rInt tb σ K j) : E rBl (tOp rNe ta tb) σ K (!decide (i = j)) :=
  fun H a Q q => two ha hb H a _ fun v w H2 F g hv hw => by
    cases hv; cases hw
    refine ⟨rfl, q _ H2 F g ?_⟩
    show V.bl _ = V.bl _
    simp
theorem t_test {b : Bool} (h : E rBl te σ K b) : T (tTest te) σ K b := fun H a Q q => h H a _ fun v H2 F g hv => ⟨b, hv, q H2 g.h⟩
theorem t_b {b : Bool} (h : E rBl te σ K b) : T (tB te) σ K b := fun H a Q q => h H a _ fun v H2 F g hv => ⟨b, hv, q H2 g.h⟩
theorem T.up2 {b : Bool} (h : T t σ K b) {H H1 : Hp} (a : Ex K H) (e : Ex H H1) : T t σ H1 b := h.mono (a.trans e)
theorem t_and {a b : Bool} (h1 : T t σ K a) (h2 : a = true → T u σ K b) : T (tAnd t u) σ K (a && b) := fun H e Q q => h1 H e _ fun H2 e2 => by
  cases a with
  | true => exact h2 rfl H2 (e.trans e2) Q fun H3 e3 => q H3 (e2.trans e3)
  | false => exact q H2 e2
theorem t_or {a b : Bool} (h1 : T t σ K a) (h2 : a = false → T u σ K b) : T (tOr t u) σ K (a || b) := fun H e Q q => h1 H e _ fun H2 e2 => by
  cases a with
  | true => exact q H2 e2
  | false => exact h2 rfl H2 (e.trans e2) Q fun H3 e3 => q H3 (e2.trans e3)
theorem t_not {a : Bool} (h1 : T t σ K a) : T (tNot t) σ K (!a) := fun H e _ q => h1 H e _ fun H2 e2 => q H2 e2
theorem e_andV {a b : Bool} (h1 : E rBl ta σ K a) (h2 : a = true → E rBl tb σ K b) : E rBl (tAndV ta tb) σ K (a && b) := fun H e Q q => h1 H e _ fun v H2 F g hv => ⟨a, hv, by
  cases a with
  | true => exact (h2 rfl).mono g.k H2 g.f Q fun v H3 F3 g3 h3 => q v H3 F3 (g.trans g3) h3
  | false => exact q _ H2 F g rfl⟩
theorem e_orV {a b : Bool} (h1 : E rBl ta σ K a) (h2 : a = false → E rBl tb σ K b) : E rBl (tOrV ta tb) σ K (a || b) := fun H e Q q => h1 H e _ fun v H2 F g hv => ⟨a, hv, by
  cases a with
  | true => exact q _ H2 F g rfl
  | false => exact (h2 rfl).mono g.k H2 g.f Q fun v H3 F3 g3 h3 => q v H3 F3 (g.trans g3) h3⟩
theorem e_notV {a : Bool} (h1 : E rBl ta σ K a) : E rBl (tNotV ta) σ K (!a) := fun H e Q q => h1 H e _ fun v H2 F g hv => ⟨a, hv, q _ H2 F g rfl⟩
theorem e_if {b : Bool} [Mono r] (h : T t σ K b) (h1 : b = true → E r ta σ K x) (h2 : b = false → E r tb σ K x) : E r (tIf t ta tb) σ K x := fun H e Q q => h H e _ fun H2 e2 => by
  cases b with
  | true => exact h1 rfl H2 (e.trans e2) Q fun v H3 F g hv => q v H3 F ((Grow.of e e2).trans g) hv
  | false => exact h2 rfl H2 (e.trans e2) Q fun v H3 F g hv => q v H3 F ((Grow.of e e2).trans g) hv
theorem en_if {b : Bool} {xs : List α} (h : T t σ K b) (h1 : b = true → EN r ta σ K xs) (h2 : b = false → EN r tb σ K xs) : EN r (tIf t ta tb) σ K xs := fun H e Q q => h H e _ fun H2 e2 => by
  cases b with
  | true => exact h1 rfl H2 (e.trans e2) Q fun p vs H3 F g fp hp h3 hv => q p vs H3 F ((Grow.of e e2).trans g) fp (e2.free hp) h3 hv
  | false => exact h2 rfl H2 (e.trans e2) Q fun p vs H3 F g fp hp h3 hv => q p vs H3 F ((Grow.of e e2).trans g) fp (e2.free hp) h3 hv
theorem t_if {b c : Bool} {t1 t2 : TT} (h : T t σ K b) (h1 : b = true → T t1 σ K c) (h2 : b = false → T t2 σ K c) : T (fun σ H Q => t σ H fun c H1 => if c = true then t1 σ H1 Q else t2 σ H1 Q) σ K c := fun H e Q q => h H e _ fun H2 e2 => by
  cases b with
  | true => exact h1 rfl H2 (e.trans e2) Q fun H3 e3 => q H3 (e2.trans e3)
  | false => exact h2 rfl H2 (e.trans e2) Q fun H3 e3 => q H3 (e2.trans e3)

/-! ### subscripts, tuples, lists -/
variable {Kf : PySem.W.Frag}
theorem e_top {q : Rat} (ha : E (rQ Kf) ta σ K q) : E rInt (tOp (rIxT Kf) ta (tC (.int 0))) σ K q.num := fun H a Q k => ha H a _ fun v H2 F g ⟨b, hv, hb⟩ => ⟨b, _, 0, _, hv, rfl, ex_t g.f hb, rfl, k _ H2 F g rfl⟩
theorem e_bot {q : Rat} (ha : E (rQ Kf) ta σ K q) : E rInt (tOp (rIxT Kf) ta (tC (.int 1))) σ K (q.den : Int) := fun H a Q k => ha H a _ fun v H2 F g ⟨b, hv, hb⟩ => ⟨b, _, 1, _, hv, rfl, ex_t g.f hb, rfl, k _ H2 F g rfl⟩
theorem e_at [Mono r] {xs : List α} {k : Int} (ha : E (rLst r) ta σ K xs) (hb : E rInt tb σ K k) (h0 : 0 ≤ k) (hx : xs[k.toNat]? = some x) : E r (tOp (rIxL Kf) ta tb) σ K x :=
  fun H a Q q => two ha hb H a _ fun v w H2 F g ⟨b, vs, hv, hb, hp⟩ hw => by
    obtain ⟨y, h1, h2⟩ := p_at hp hx
    refine ⟨b, vs, k, y, hv, hw, sq_of (g.f b _ hb), ?_, q y H2 F g h2⟩
    have := atI_nat h1
    rwa [Int.toNat_of_nonneg h0] at this
theorem ea_nil : EA pNil tNil σ K := fun H a _ q => q [] H K (Grow.refl a) rfl
theorem ea_cons {P : PP} {tr : TA} [Mono r] [MonoP P] (h : E r te σ K x) (hr : EA P tr σ K) : EA (pCons r x P) (tCons te tr) σ K := fun H a Q q =>
  h H a _ fun v H2 F g hv => (hr.mono g.k) H2 g.f _ fun vs H3 F3 g3 hp => q _ H3 F3 (g.trans g3) ⟨v, vs, rfl, up g3.k hv, hp⟩
theorem two_le : (2 : Nat) ≤ sizeLine := by decide
theorem e_pair {n d : Int} {q : Rat} (ha : E rInt ta σ K n) (hb : E rInt tb σ K d) (h1 : n = q.num) (h2 : d = q.den) : E (rQ Kf) (tTup (tCons ta (tCons tb tNil))) σ K q :=
  fun H a Q k => two ha hb H a _ fun v w H2 F g hv hw => ⟨two_le, fun p hp => k (.ref p) _ _ (g.new hp) ⟨p, rfl, st_of (by rw [upd_same]; cases hv; cases hw; rw [h1, h2])⟩⟩
theorem sz_of {n : Nat} (h : n ≤ 100000) : n ≤ sizeLine := Nat.le_trans h (by decide)
theorem sz_lt {n : Nat} (h : n < 100000) : n < sizeLine := Nat.lt_of_lt_of_le h (by decide)
/-- [] -/
theorem en_nil : EN r (tLst tNil) σ K [] := fun H a Q q => ⟨Nat.zero_le _, fun p hp => q p [] _ K (Grow.of a (Ex.new hp)) (a.free hp) hp upd_same .nil⟩
/-- [e] -/
theorem en_one [Mono r] (h : E r te σ K x) : EN r (tLst (tCons te tNil)) σ K [x] := fun H a Q q => h H a _ fun v H2 F g hv =>
  ⟨sz_of (by show 1 ≤ 100000; decide), fun p hp => q p [v] _ F ⟨g.h.trans (Ex.new hp), g.k, g.f.trans (Ex.new hp), g.n⟩ (g.f.free hp) (g.h.free hp) upd_same (.cons hv .nil)⟩
/-- calls of built-in functions -/
theorem e_len {xs : List α} (h : E (rLst r) te σ K xs) : E rInt (tCB (rLen Kf) (tCons te tNil)) σ K (xs.length : Int) :=
  fun H a Q q => h H a _ fun v H2 F g ⟨b, vs, hv, hb, hp⟩ => ⟨b, vs, by rw [hv], .inl (sq_of (g.f b _ hb)), q _ H2 F g (by show V.int _ = V.int _; rw [p_len hp])⟩
theorem e_gcd {i j : Int} (ha : E rInt ta σ K i) (hb : E rInt tb σ K j) : E rInt (tCB rGcd (tCons ta (tCons tb tNil))) σ K ((Nat.gcd i.natAbs j.natAbs : Nat) : Int) :=
  fun H a Q q => two ha hb H a _ fun v w H2 F g hv hw => ⟨i, j, by cases hv; cases hw; rfl, q _ H2 F g rfl⟩
/-- calls of defs -/
def Res {α : Type} (r : Rp α) (K H : Hp) (x : α) (Q : VK) : Prop := ∀ v H' F, Grow K H F H' → r F v x → Q v H'
def ResN {α : Type} (r : Rp α) (K H : Hp) (xs : List α) (Q : VK) : Prop := ∀ p vs H' F, Grow K H F H' → F p = none → H p = none → H' p = some (.lst vs) → Paired (r F) vs xs → Q (.ref p) H'
theorem e_call {P : PP} {sp : Sp} {E' : XK} {tr : TA} (h : EA P tr σ K) (hs : ∀ F H vs Q, Ex F H → P F vs → Res r F H x Q → sp vs H Q E') : E r (tCall sp [] E' tr) σ K x :=
  fun H a Q q => h H a _ fun vs H2 F g hp => by
    show sp (vs ++ []) H2 Q E'
    rw [List.append_nil]
    exact hs F H2 vs Q g.f hp fun v H' F' g' hv => q v H' F' (g.trans g') hv
theorem en_call {P : PP} {sp : Sp} {E' : XK} {tr : TA} {xs : List α} (h : EA P tr σ K) (hs : ∀ F H vs Q, Ex F H → P F vs → ResN r F H xs Q → sp vs H Q E') : EN r (tCall sp [] E' tr) σ K xs :=
  fun H a Q q => h H a _ fun vs H2 F g hp => by
    show sp (vs ++ []) H2 Q E'
    rw [List.append_nil]
    exact hs F H2 vs Q g.f hp fun p ws H' F' g' fp hp' h' hv => q p ws H' F' (g.trans g') fp (g.h.free hp') h' hv
/-- slices -/
def EO (to : TO) (σ : L2.St) (K : Hp) (o : Option Int) : Prop := ∀ H, Ex K H → ∀ Q : Option Int → Hp → Prop, (∀ H2, Ex H H2 → Q o H2) → to σ H Q
theorem eo_none : EO tNoPart σ K none := fun H _ _ q => q H (Ex.refl H)
theorem eo_some {i : Int} (h : E rInt te σ K i) : EO (tPart te) σ K (some i) := fun H a _ q => h H a _ fun v H2 F g hv => ⟨i, hv, q H2 g.h⟩
def cutL {α : Type} (xs : List α) (lo hi : Option Int) : List α := (xs.drop (HT.sIx xs.length 0 lo)).take (HT.sIx xs.length xs.length hi - HT.sIx xs.length 0 lo)
theorem cut_pair {F : V → α → Prop} {vs : List V} {xs : List α} (h : Paired F vs xs) (lo hi : Option Int) : Paired F (cutV vs lo hi) (cutL xs lo hi) := by
  unfold cutV cutL
  rw [p_len h]
  exact p_take _ (p_drop _ h)
theorem cutL_to (xs : List α) (n : Nat) : cutL xs none (some (n : Int)) = xs.take n := by
  unfold cutL
  rw [HT.sIx_none, HT.sIx_nat]
  show (xs.drop 0).take (min n xs.length - 0) = xs.take n
  rw [List.drop_zero, Nat.sub_zero, ← List.take_eq_take_min]
theorem cutL_from (xs : List α) (n : Nat) : cutL xs (some (n : Int)) none = xs.drop n := by
  unfold cutL
  rw [HT.sIx_none, HT.sIx_nat]
  by_cases h : n ≤ xs.length
  · rw [Nat.min_eq_left h, ← List.length_drop]
    exact List.take_of_length_le (Nat.le_refl _)
  · rw [Nat.min_eq_right (by omega), Nat.sub_self, List.take_zero, List.drop_eq_nil_of_le (by omega)]
theorem en_slice [Mono r] {tl th : TO} {xs : List α} {lo hi : Option Int} (h : E (rLst r) te σ K xs) (h1 : EO tl σ K lo) (h2 : EO th σ K hi) : EN r (tSl (rSlL Kf) te tl th) σ K (cutL xs lo hi) := fun H a Q q =>
  h H a _ fun v H2 F g ⟨b, vs, hv, hb, hp⟩ => h1 H2 g.kh _ fun H3 e3 => h2 H3 (g.kh.trans e3) _ fun H4 e4 =>
    ⟨b, vs, hv, sq_of (e4 b _ (e3 b _ (g.f b _ hb))), fun p hp' => q p _ _ F ⟨((g.h.trans e3).trans e4).trans (Ex.new hp'), g.k, ((g.f.trans e3).trans e4).trans (Ex.new hp'), g.n⟩ (((g.f.trans e3).trans e4).free hp') (((g.h.trans e3).trans e4).free hp') upd_same (cut_pair hp lo hi)⟩
theorem en_cat [Mono r] {xs ys : List α} (ha : E (rLst r) ta σ K xs) (hb : E (rLst r) tb σ K ys) (hz : xs.length + ys.length ≤ 100000) : EN r (tOp rCat ta tb) σ K (xs ++ ys) := fun H a Q q =>
  two ha hb H a _ fun v w H2 F g ⟨b, vs, hv, hb, hp⟩ ⟨c, ws, hw, hc, hq⟩ => ⟨b, c, vs, ws, hv, hw, g.f b _ hb, g.f c _ hc, sz_of (by rw [p_len hp, p_len hq]; exact hz), fun p hp' =>
    q p _ _ F ⟨g.h.trans (Ex.new hp'), g.k, g.f.trans (Ex.new hp'), g.n⟩ (g.f.free hp') (g.h.free hp') upd_same (p_app hp hq)⟩
theorem en_list [Mono r] {xs : List α} (h : E (rLst r) te σ K xs) : EN r (tCB (rList Kf) (tCons te tNil)) σ K xs :=
  fun H a Q q => h H a _ fun v H2 F g ⟨b, vs, hv, hb, hp⟩ => ⟨b, vs, by rw [hv], .inl (sq_of (g.f b _ hb)), fun p hp' =>
    q p _ _ F ⟨g.h.trans (Ex.new hp'), g.k, g.f.trans (Ex.new hp'), g.n⟩ (g.f.free hp') (g.h.free hp') upd_same hp⟩

/-! ### statements -/
variable {D : Ends} {c : TT} {tw tz : TS}
theorem set_id {σ : L2.St} {i : Nat} {v : V} (h : σ[i]? = some (some v)) : σ.set i (some v) = σ := by
  apply List.ext_getElem?
  intro j
  rw [List.getElem?_set]
  split
  · next e => subst e; rw [h]; split
              · rfl
              · next z => rw [List.getElem?_eq_none_iff.mpr (by omega)] at h; cases h
  · rfl
theorem s_if {b : Bool} {H : Hp} (h : T c σ K b) (ex : Ex K H) (h1 : b = true → ∀ H', Ex H H' → tw D σ H') (h2 : b = false → ∀ H', Ex H H' → tz D σ H') : tIfS c tw tz D σ H := h H ex _ fun H1 e => by
  cases b with
  | true => exact h1 rfl H1 e
  | false => exact h2 rfl H1 e
theorem s_set {H : Hp} {i : Nat} (h : E r te σ K x) (ex : Ex K H) (k : ∀ v H2 F, Grow K H F H2 → r F v x → D.nx (σ.set i (some v)) H2) : tAsg te (gName i) D σ H := h H ex _ k
theorem s_setN {H : Hp} {i : Nat} {xs : List α} (h : EN r te σ K xs) (ex : Ex K H) (k : ∀ p vs H2 F, Grow K H F H2 → F p = none → H p = none → H2 p = some (.lst vs) → Paired (r F) vs xs → D.nx (σ.set i (some (.ref p))) H2) : tAsg te (gName i) D σ H := h H ex _ k
theorem s_ret {H : Hp} (h : E r te σ K x) (ex : Ex K H) (k : ∀ v H2 F, Grow K H F H2 → r F v x → D.rt v H2) : tRet te D σ H := h H ex _ k
theorem s_retN {H : Hp} {xs : List α} (h : EN r te σ K xs) (ex : Ex K H) (k : ∀ p vs H2 F, Grow K H F H2 → F p = none → H p = none → H2 p = some (.lst vs) → Paired (r F) vs xs → D.rt (.ref p) H2) : tRet te D σ H := h H ex _ k
theorem Res.from {H H' F' : Hp} {Q : VK} (g : Grow K H F' H') (h : Res r K H x Q) : Res r F' H' x Q := fun v H2 F g2 hv => h v H2 F (g.trans g2) hv
theorem Res.at {H H' : Hp} {Q : VK} (ex : Ex K H) (e : Ex H H') (h : Res r K H x Q) : Res r K H' x Q := fun v H2 F g2 hv => h v H2 F ((Grow.of ex e).trans g2) hv
theorem ResN.from {H H' F' : Hp} {xs : List α} {Q : VK} (g : Grow K H F' H') (h : ResN r K H xs Q) : ResN r F' H' xs Q := fun p vs H2 F g2 fp hp h2 hv => h p vs H2 F (g.trans g2) fp (g.h.free hp) h2 hv
theorem ResN.at {H H' : Hp} {xs : List α} {Q : VK} (ex : Ex K H) (e : Ex H H') (h : ResN r K H xs Q) : ResN r K H' xs Q := ResN.from (Grow.of ex e) h
/-- if c: x = e -/
theorem s_ifset {b : Bool} {H : Hp} {i : Nat} {n : Int} (h : T c σ K b) (ex : Ex K H) (h1 : b = true → E rInt te σ K n) (h2 : b = false → σ[i]? = some (some (.int n))) (k : ∀ H', Ex H H' → D.nx (σ.set i (some (.int n))) H') : tIfS c (tAsg te (gName i)) tNext D σ H :=
  s_if h ex (fun hb H1 e1 => (h1 hb) H1 (ex.trans e1) _ fun v H2 F g hv => by cases hv; exact k H2 (e1.trans g.h)) (fun hb H1 e1 => by
    have := k H1 e1
    rw [set_id (h2 hb)] at this
    exact this)
end
end Y

set_option Elab.async false
set_option linter.all false
set_option maxRecDepth 100000
/-! # Fractions: tops and bottoms, sizes -/
namespace Y
open PySem L2
/-! ### floor division by any great number but 0 -/
def CDivX (_ j : Int) : Prop := j ≠ 0 ∧ j.natAbs.log2 < 9000
theorem op_fdX {X : Cx} : OpR X (binaryOp .FloorDiv) (rI CDivX fun i j => .int (i.fdiv j)) := opI fun i j _ _ _ _ _ hc q => PyProof.Rows.floordiv_int hc.1 q (.inl (PyProof.noPylong_of_log2 hc.2))
theorem log2_lt {n b : Nat} (h0 : 0 < b) (h : n < 2 ^ b) : n.log2 < b := PySem.Flt.log2_lt_of h0 h
theorem cdivX {i j : Int} {b : Nat} (h : j ≠ 0) (hb : j.natAbs < 2 ^ b) (h0 : 0 < b) (h9 : b ≤ 9000) : CDivX i j := ⟨h, Nat.lt_of_lt_of_le (log2_lt h0 hb) h9⟩
/-! ### lowest terms -/
/-- the divisor that low takes -/
def gs (t b : Int) : Int := if b < 0 then -((Nat.gcd t.natAbs b.natAbs : Nat) : Int) else ((Nat.gcd t.natAbs b.natAbs : Nat) : Int)
theorem gs_ne {t b : Int} (h : b ≠ 0) : gs t b ≠ 0 := by
  have : 0 < Nat.gcd t.natAbs b.natAbs := Nat.gcd_pos_of_pos_right _ (by omega)
  unfold gs; split <;> omega
theorem gs_abs (t b : Int) : (gs t b).natAbs = Nat.gcd t.natAbs b.natAbs := by unfold gs; split <;> omega
theorem gs_le {t b : Int} (h : b ≠ 0) : (gs t b).natAbs ≤ b.natAbs := by rw [gs_abs]; exact Nat.gcd_le_right _ (by omega)
theorem fdiv_eq {a b c : Int} (hb : b ≠ 0) (h : a = c * b) : a.fdiv b = c := by rw [h]; exact Int.mul_fdiv_cancel c hb
theorem low_spec {t b n d s : Int} (hs : s ≠ 0) (ht : t = n * s) (hb : b = d * s) (hd : 0 < d) (hc : n.natAbs.Coprime d.natAbs) : (Rat.divInt t b).num = n ∧ ((Rat.divInt t b).den : Int) = d := by
  have e : Rat.divInt t b = Rat.divInt n d := by rw [ht, hb, Rat.divInt_mul_right hs]
  have e2 : Rat.divInt n d = (Rat.mk' n d.natAbs (by omega) hc) := by
    rw [Rat.mk_eq_divInt]
    rw [show ((d.natAbs : Nat) : Int) = d by omega]
  rw [e, e2]
  exact ⟨rfl, by show ((d.natAbs : Nat) : Int) = d; omega⟩
theorem low_both {t b : Int} (h : b ≠ 0) : t.fdiv (gs t b) = (Rat.divInt t b).num ∧ b.fdiv (gs t b) = ((Rat.divInt t b).den : Int) := by
  have g0 : 0 < Nat.gcd t.natAbs b.natAbs := Nat.gcd_pos_of_pos_right _ (by omega)
  obtain ⟨t', ht⟩ := Nat.gcd_dvd_left t.natAbs b.natAbs
  obtain ⟨b', hb⟩ := Nat.gcd_dvd_right t.natAbs b.natAbs
  generalize hg : Nat.gcd t.natAbs b.natAbs = g at *
  have b0 : 0 < b' := by rcases Nat.eq_zero_or_pos b' with z | z; subst z; omega; exact z
  have hc : Nat.Coprime t' b' := by
    have := Nat.gcd_mul_left g t' b'
    rw [← ht, ← hb, hg] at this
    exact Nat.eq_of_mul_eq_mul_left g0 (by rw [Nat.mul_one]; exact this.symm)
  have hs0 := gs_ne (t := t) h
  have key : ∃ n d : Int, t = n * gs t b ∧ b = d * gs t b ∧ 0 < d ∧ n.natAbs.Coprime d.natAbs := by
    unfold gs
    rw [hg]
    by_cases hneg : b < 0
    · rw [if_pos hneg]
      refine ⟨if t < 0 then (t' : Int) else -(t' : Int), b', ?_, ?_, by omega, ?_⟩
      · split
        · have : t = -((g * t' : Nat) : Int) := by omega
          rw [this]; push_cast; rw [Int.mul_neg, Int.mul_comm]
        · have : t = ((g * t' : Nat) : Int) := by omega
          rw [this]; push_cast; rw [Int.neg_mul_neg, Int.mul_comm]
      · have : b = -((g * b' : Nat) : Int) := by omega
        rw [this]; push_cast; rw [Int.mul_neg, Int.mul_comm]
      · split <;> simpa using hc
    · rw [if_neg hneg]
      refine ⟨if t < 0 then -(t' : Int) else (t' : Int), b', ?_, ?_, by omega, ?_⟩
      · split
        · have : t = -((g * t' : Nat) : Int) := by omega
          rw [this]; push_cast; rw [Int.neg_mul, Int.mul_comm]
        · have : t = ((g * t' : Nat) : Int) := by omega
          rw [this]; push_cast; rw [Int.mul_comm]
      · have : b = ((g * b' : Nat) : Int) := by omega
        rw [this]; push_cast; rw [Int.mul_comm]
      · split <;> simpa using hc
  obtain ⟨n, d, h1, h2, h3, h4⟩ := key
  obtain ⟨k1, k2⟩ := low_spec hs0 h1 h2 h3 h4
  exact ⟨(fdiv_eq hs0 h1).trans k1.symm, (fdiv_eq hs0 h2).trans k2.symm⟩
theorem fdiv_one (a : Int) : a.fdiv 1 = a := fdiv_eq (by decide) (by rw [Int.mul_one])
theorem low_one {t b : Int} (h : b ≠ 0) (h1 : gs t b = 1) : t = (Rat.divInt t b).num ∧ b = ((Rat.divInt t b).den : Int) := by
  have := low_both (t := t) h
  rw [h1, fdiv_one, fdiv_one] at this
  exact this
theorem den0 (q : Rat) : (q.den : Int) ≠ 0 := by have := q.den_nz; omega
theorem q_def (q : Rat) : Rat.divInt q.num q.den = q := Rat.num_divInt_den q
theorem q_add (a b : Rat) : Rat.divInt (a.num * b.den + b.num * a.den) (a.den * b.den) = a + b := by
  conv => rhs; rw [← q_def a, ← q_def b]
  rw [Rat.divInt_add_divInt _ _ (den0 a) (den0 b)]
theorem q_sub (a b : Rat) : Rat.divInt (a.num * b.den - b.num * a.den) (a.den * b.den) = a - b := by
  conv => rhs; rw [← q_def a, ← q_def b]
  rw [Rat.divInt_sub_divInt _ _ (den0 a) (den0 b)]
theorem q_add1 (a b : Rat) (h : (a.den : Int) = b.den) : Rat.divInt (a.num + b.num) a.den = a + b := by
  rw [← q_add a b, ← h, ← Int.add_mul, Rat.divInt_mul_right (den0 a)]
theorem q_sub1 (a b : Rat) (h : (a.den : Int) = b.den) : Rat.divInt (a.num - b.num) a.den = a - b := by
  rw [← q_sub a b, ← h, ← Int.sub_mul, Rat.divInt_mul_right (den0 a)]
theorem q_mul (a b : Rat) : Rat.divInt (a.num * b.num) (a.den * b.den) = a * b := by
  conv => rhs; rw [← q_def a, ← q_def b]
  rw [Rat.divInt_mul_divInt]
theorem q_div (a b : Rat) : Rat.divInt (a.num * b.den) (a.den * b.num) = a / b := by
  conv => rhs; rw [← q_def a, ← q_def b]
  rw [Rat.div_def, Rat.inv_divInt, Rat.divInt_mul_divInt]
theorem num_ne {q : Rat} (h : q ≠ 0) : q.num ≠ 0 := fun z => h (by rw [← q_def q, z]; exact Rat.zero_divInt _)
theorem q_int (n : Int) : (n : Rat).num = n ∧ (n : Rat).den = 1 := ⟨rfl, rfl⟩
/-! ### sizes -/
def Sz (n : Nat) (q : Rat) : Prop := q.num.natAbs < 2 ^ n ∧ q.den < 2 ^ n
theorem Sz.mono {m n : Nat} {q : Rat} (h : Sz m q) (hl : m ≤ n) : Sz n q := ⟨Nat.lt_of_lt_of_le h.1 (Nat.pow_le_pow_right (by decide) hl), Nat.lt_of_lt_of_le h.2 (Nat.pow_le_pow_right (by decide) hl)⟩
theorem abs_mul {i j : Int} {a b : Nat} (ha : i.natAbs < 2 ^ a) (hb : j.natAbs < 2 ^ b) : (i * j).natAbs < 2 ^ (a + b) := wide_lt ha hb
theorem mulOk {i j : Int} {a b : Nat} (ha : i.natAbs < 2 ^ a) (hb : j.natAbs < 2 ^ b) (h0 : 0 < a) (h1 : 0 < b) (h : a + b ≤ 1000000) : CMulW i j := wide_mul ha hb h0 h1 h
/-- small enough for one operation more -/
def S4 (q : Rat) : Prop := q.num.natAbs < 2 ^ 100000 ∧ q.den < 2 ^ 4000
theorem S4.den {q : Rat} (h : S4 q) : ((q.den : Int)).natAbs < 2 ^ 4000 := by have := h.2; omega
end Y

set_option Elab.async false
set_option linter.all false
set_option maxRecDepth 100000
set_option maxHeartbeats 1000000
/-! # Walks: for, comprehensions, while -/
namespace Y
open PySem L2
/-- what a for walks: n turns; what turn i gives is told by R -/
def IT (R : Nat → Hp → V → Prop) (wi : TI) (σ : L2.St) (K : Hp) (n : Nat) : Prop := ∀ H, Ex K H → ∀ Rk : It → Hp → Prop,
  (∀ J H2 F G Y, Grow K H F H2 → Walk J n G Y → (∀ H', Ex F H' → G H') → (∀ i H3 x H4 F3, i < n → Ex F F3 → Ex F3 H3 → Y i H3 x H4 → ∃ F4, Grow F3 H3 F4 H4 ∧ R i F4 x) → Rk J H2) → wi σ H Rk
def rAt {α : Type} (r : Rp α) (xs : List α) (i : Nat) : Hp → V → Prop := fun F v => ∃ x, xs[i]? = some x ∧ r F v x
section
variable {α β : Type} {r : Rp α} {s : Rp β} {σ : L2.St} {K K' H : Hp} {ta tb te tl : TE} {t u : TT} {x : α} {y : β} {Kf : PySem.W.Frag}
theorem it_list {xs : List α} [Mono r] (h : E (rLst r) tl σ K xs) : IT (rAt r xs) (iList Kf tl) σ K xs.length := fun H a Rk q => h H a _ fun v H2 F g ⟨b, vs, hv, hb, hp⟩ =>
  ⟨b, hv, ⟨vs, sq_of (g.f b _ hb)⟩, by
    have w := walk_list (K := Kf) (a := b) (xs := vs)
    rw [p_len hp] at w
    refine q _ H2 F _ _ g w (fun H' e => sq_of (e b _ hb)) fun i H3 x H4 F3 hi e1 e2 hy => ?_
    obtain ⟨rfl, hx⟩ := hy
    obtain ⟨z, h1, h2⟩ := p_atl hp hx
    exact ⟨F3, Grow.refl e2, z, h1, up e1 h2⟩⟩
theorem it_range1 {n : Int} (h : E rInt ta σ K n) (h0 : 0 ≤ n) (h1 : n ≤ 100000) : IT (fun i _ v => v = .int (i : Int)) (iRng1 (tCons ta tNil)) σ K n.toNat := fun H a Rk q => h H a _ fun v H2 F g hv =>
  ⟨n, by cases hv; rfl, by omega, by omega, q _ H2 F _ _ g walk_range (fun _ _ => True.intro) fun i H3 x H4 F3 hi e1 e2 hy => by
    obtain ⟨rfl, hx⟩ := hy
    exact ⟨F3, Grow.refl e2, by
      show x = V.int (i : Int)
      rw [hx]
      show V.int (0 + (i : Int)) = V.int (i : Int)
      rw [Int.zero_add]⟩⟩
theorem it_range2 {lo n : Int} (h : E rInt ta σ K lo) (h' : E rInt tb σ K n) (h0 : -100000 ≤ lo ∧ lo ≤ 100000) (h1 : -100000 ≤ n ∧ n ≤ 100000) : IT (fun i _ v => v = .int (lo + (i : Int))) (iRng2 (tCons ta (tCons tb tNil))) σ K (n - lo).toNat := fun H a Rk q => two h h' H a _ fun v w H2 F g hv hw =>
  ⟨lo, n, by cases hv; cases hw; rfl, by omega, q _ H2 F _ _ g walk_range (fun _ _ => True.intro) fun i H3 x H4 F3 hi e1 e2 hy => by
    obtain ⟨rfl, hx⟩ := hy
    exact ⟨F3, Grow.refl e2, hx⟩⟩
/-- a pair at each turn -/
def rPair {α β : Type} (r : Rp α) (s : Rp β) (xs : List α) (ys : List β) (i : Nat) : Hp → V → Prop := fun F v => ∃ T a b x y, v = .ref T ∧ F T = some (.tup [a, b]) ∧ xs[i]? = some x ∧ ys[i]? = some y ∧ r F a x ∧ s F b y
theorem walk_zip' {K : PySem.W.Frag} {a b : Addr} {xs ys : List V} (h : xs.length = ys.length) : Walk (Itz K a b) xs.length (fun H => SqL K H a xs ∧ SqL K H b ys) (YPair (fun i => xs[i]?) (fun i => ys[i]?)) :=
  ⟨fun i _ hi q => ⟨xs, ys, xs[i], ys[i]'(by omega), q.1, q.2, by simp [hi], by simp [show i < ys.length by omega]⟩, fun _ q => ⟨xs, ys, q.1, q.2, Or.inl (Nat.le_refl _)⟩,
   fun _ _ _ _ _ q y => by
    obtain ⟨T, x, y', h1, h2, h3, h4, h5⟩ := y
    exact ⟨T, x, y', h1, h2, h3, h4 xs q.1, h5 ys q.2⟩⟩
theorem it_zip {xs : List α} {ys : List β} [Mono r] [Mono s] (h : E (rLst r) ta σ K xs) (h' : E (rLst s) tb σ K ys) (hl : xs.length = ys.length) : IT (rPair r s xs ys) (iZip Kf (tCons ta (tCons tb tNil))) σ K xs.length :=
  fun H a Rk q => two h h' H a _ fun v w H2 F g ⟨b, vs, hv, hb, hp⟩ ⟨c, ws, hw, hc, hq⟩ => ⟨b, c, vs, ws, by rw [hv, hw], sq_of (g.f b _ hb), sq_of (g.f c _ hc), by
    have w := walk_zip' (K := Kf) (a := b) (b := c) (xs := vs) (ys := ws) (by rw [p_len hp, p_len hq, hl])
    rw [p_len hp] at w
    refine q _ H2 F _ _ g w (fun H' e => ⟨sq_of (e b _ hb), sq_of (e c _ hc)⟩) fun i H3 x H4 F3 hi e1 e2 hy => ?_
    obtain ⟨T, x1, y1, rfl, hT, rfl, hx, hy⟩ := hy
    obtain ⟨z, h1, h2⟩ := p_atl hp hx
    obtain ⟨z', h1', h2'⟩ := p_atl hq hy
    have gn := (Grow.refl e2).new (o := .tup [x1, y1]) hT
    exact ⟨_, gn, T, x1, y1, z, z', rfl, upd_same, h1, h1', up (e1.trans gn.k) h2, up (e1.trans gn.k) h2'⟩⟩
theorem walk_enum' {K : PySem.W.Frag} {a : Addr} {xs : List V} : Walk (Ite K a) xs.length (fun H => SqL K H a xs) (YPair (fun i => some (.int (i : Int))) (fun i => xs[i]?)) :=
  ⟨fun i _ hi q => ⟨xs, xs[i], q, by simp [hi]⟩, fun _ q => ⟨xs, q, Nat.le_refl _⟩,
   fun _ _ _ _ _ q y => by
    obtain ⟨T, x, h1, h2, h3, h4⟩ := y
    exact ⟨T, _, x, h1, h2, h3, rfl, h4 xs q⟩⟩
def rEnum {α : Type} (r : Rp α) (xs : List α) (i : Nat) : Hp → V → Prop := fun F v => ∃ T b x, v = .ref T ∧ F T = some (.tup [.int (i : Int), b]) ∧ xs[i]? = some x ∧ r F b x
theorem it_enum {xs : List α} [Mono r] (h : E (rLst r) ta σ K xs) : IT (rEnum r xs) (iEnum Kf (tCons ta tNil)) σ K xs.length :=
  fun H a Rk q => h H a _ fun v H2 F g ⟨b, vs, hv, hb, hp⟩ => ⟨b, vs, by rw [hv], sq_of (g.f b _ hb), by
    have w := walk_enum' (K := Kf) (a := b) (xs := vs)
    rw [p_len hp] at w
    refine q _ H2 F _ _ g w (fun H' e => sq_of (e b _ hb)) fun i H3 x H4 F3 hi e1 e2 hy => ?_
    obtain ⟨T, x1, y1, rfl, hT, rfl, hx, hy⟩ := hy
    cases hx
    obtain ⟨z', h1', h2'⟩ := p_atl hp hy
    have gn := (Grow.refl e2).new (o := .tup [.int (i : Int), y1]) hT
    exact ⟨_, gn, T, y1, z', rfl, upd_same, h1', up (e1.trans gn.k) h2'⟩⟩
/-- a target that takes a value -/
def Tg (g : TG) (σ : L2.St) (F : Hp) (v : V) (σ' : L2.St) : Prop := ∀ H, Ex F H → ∀ Q : L2.St → Hp → Prop, Q σ' H → g v σ H Q
theorem tg_name {j : Nat} {F : Hp} {v : V} : Tg (gName j) σ F v (σ.set j (some v)) := fun _ _ _ q => q
theorem tg_two {i j : Nat} {F : Hp} {T : Addr} {a b : V} (h : SqT Kf F T [a, b]) : Tg (gTup Kf 2 (gCons (gName i) (gCons (gName j) gNil))) σ F (.ref T) ((σ.set i (some a)).set j (some b)) :=
  fun H e Q q => ⟨T, [a, b], rfl, ex_t e h, rfl, a, [b], rfl, b, [], rfl, rfl, q⟩
/-- a comprehension -/
theorem en_lc {R : Nat → Hp → V → Prop} {wi : TI} {g : TG} {tt : TT} {vs : List Nat} {n : Nat} {f : Nat → α} {p : Nat → Bool} [Mono r] (h : IT R wi σ K n) (hn : n ≤ 100000)
    (hs : ∀ i v F, i < n → Ex K F → R i F v → ∃ σ2, Tg g (wipe σ vs) F v σ2 ∧ wipe σ2 vs = wipe σ vs ∧ T tt σ2 F (p i) ∧ (p i = true → E r te σ2 F (f i))) : EN r (tLc wi g tt te vs) σ K (((List.range n).filter p).map f) :=
  fun H a Q q => h H a _ fun J H2 F G Y gr w hG hY Dl hD => by
    have fD : F Dl = none := gr.f.free hD
    refine lc_it w (fun i H' => ∃ F' acc, Ex F F' ∧ Grow K H F' H' ∧ F' Dl = none ∧ H Dl = none ∧ H' Dl = some (.lst acc) ∧ acc.length ≤ i ∧ Paired (r F') acc (((List.range i).filter p).map f))
      ⟨F, [], Ex.refl F, ⟨gr.h.trans (Ex.new hD), gr.k, gr.f.trans (Ex.new hD), gr.n⟩, fD, gr.h.free hD, upd_same, Nat.zero_le _, .nil⟩ (fun i H' _ ⟨F', acc, e, g', _⟩ => hG H' (e.trans g'.f)) ?_ ?_
    · rintro i v H3 H4 hi ⟨F', acc, e, g', d1, d2, d3, hl, hp⟩ hy
      obtain ⟨F4, g4, hR⟩ := hY i H3 v H4 F' hi e g'.f hy
      have g5 := g'.trans g4
      obtain ⟨σ2, k1, k2, k3, k4⟩ := hs i v F4 hi g5.k hR
      have dd : ∀ {F5 H5}, Grow F4 H4 F5 H5 → F5 Dl = none := fun {F5 H5} g => by
        cases z : F5 Dl with
        | none => rfl
        | some o =>
          have n4 : F4 Dl = none := by
            cases z4 : F4 Dl with
            | none => rfl
            | some o4 =>
              have := g4.n Dl d1 (by rw [z4]; exact fun z => nomatch z)
              rw [d3] at this; cases this
          have := g.n Dl n4 (by rw [z]; exact fun z => nomatch z)
          rw [g4.h _ _ d3] at this; cases this
      refine k1 H4 g4.f _ ⟨k2, k3 H4 g4.f _ fun H5 e5 => ?_⟩
      cases hb : p i with
      | true =>
        refine (k4 hb) H5 (g4.f.trans e5) _ fun y H6 F6 g6 hy6 => ?_
        have g7 := (Grow.of g4.f e5).trans g6
        refine ⟨acc, g7.h _ _ (g4.h _ _ d3), sz_lt (by omega), F6, acc ++ [y], e.trans (g4.k.trans g6.k), ?_, dd g7, d2, upd_same, by rw [List.length_append]; show acc.length + 1 ≤ i + 1; omega, ?_⟩
        · have g8 := g5.trans g7
          exact ⟨g8.h.mut d2, g8.k, g8.f.mut (dd g7), g8.n⟩
        · rw [List.range_succ, List.filter_append, List.map_append, List.filter_cons, if_pos hb]
          exact p_app (p_up (g4.k.trans g6.k) hp) (.cons hy6 .nil)
      | false =>
        show ∃ F' acc, _
        refine ⟨F4, acc, e.trans g4.k, ?_, dd (Grow.refl g4.f), d2, e5 _ _ (g4.h _ _ d3), by omega, ?_⟩
        · exact ⟨g5.h.trans e5, g5.k, g5.f.trans e5, g5.n⟩
        · rw [List.range_succ, List.filter_append, List.map_append, List.filter_cons, if_neg (by rw [hb]; decide)]
          show Paired _ acc (_ ++ [])
          rw [List.append_nil]
          exact p_up g4.k hp
    · rintro H' ⟨F', acc, e, g', d1, d2, d3, hl, hp⟩
      exact q Dl acc H' F' g' d1 d2 d3 hp
theorem t_yes : T tYes σ K true := fun H _ _ q => q H (Ex.refl H)
theorem filter_all {n : Nat} {f : Nat → α} : ((List.range n).filter fun _ => true).map f = (List.range n).map f := by rw [List.filter_eq_self.mpr (fun _ _ => rfl)]
/-- without a test -/
theorem en_lc0 {R : Nat → Hp → V → Prop} {wi : TI} {g : TG} {vs : List Nat} {n : Nat} {f : Nat → α} [Mono r] (h : IT R wi σ K n) (hn : n ≤ 100000)
    (hs : ∀ i v F, i < n → Ex K F → R i F v → ∃ σ2, Tg g (wipe σ vs) F v σ2 ∧ wipe σ2 vs = wipe σ vs ∧ E r te σ2 F (f i)) : EN r (tLc wi g tYes te vs) σ K ((List.range n).map f) :=
  (en_lc (p := fun _ => true) h hn fun i v F hi e hR => by
    obtain ⟨σ2, k1, k2, k3⟩ := hs i v F hi e hR
    exact ⟨σ2, k1, k2, t_yes, fun _ => k3⟩).as filter_all
/-- over a list, by its items -/
theorem map_range {ys : List β} {f : β → α} (d : β) : ((List.range ys.length).map fun i => f (ys.getD i d)) = ys.map f := by
  apply List.ext_getElem (by simp)
  intro i h1 h2
  simp at h1 h2
  simp [h1]
theorem en_lcL {ys : List β} {f : β → α} {j : Nat} {vs : List Nat} [Mono r] [Mono s] [Inhabited β] (h : E (rLst s) tl σ K ys) (hn : ys.length ≤ 100000) (hw : ∀ v, wipe ((wipe σ vs).set j (some v)) vs = wipe σ vs)
    (hs : ∀ y v F, y ∈ ys → Ex K F → s F v y → E r te ((wipe σ vs).set j (some v)) F (f y)) : EN r (tLc (iList Kf tl) (gName j) tYes te vs) σ K (ys.map f) :=
  (en_lc0 (f := fun i => f (ys.getD i default)) (it_list h) hn fun i v F hi e ⟨y, hy, hv⟩ =>
    ⟨_, tg_name, hw v, by
      have := hs y v F (List.mem_of_getElem? hy) e hv
      rw [List.getD_eq_getElem?_getD, hy]; exact this⟩).as (map_range default)
/-- over a range from 0 -/
theorem en_lcR {n : Int} {f : Nat → α} {j : Nat} {vs : List Nat} [Mono r] (h : E rInt ta σ K n) (h0 : 0 ≤ n) (h1 : n ≤ 100000) (hw : ∀ v, wipe ((wipe σ vs).set j (some v)) vs = wipe σ vs)
    (hs : ∀ (i : Nat) F, (i : Int) < n → Ex K F → E r te ((wipe σ vs).set j (some (.int (i : Int)))) F (f i)) : EN r (tLc (iRng1 (tCons ta tNil)) (gName j) tYes te vs) σ K ((List.range n.toNat).map f) :=
  en_lc0 (it_range1 h h0 h1) (by omega) fun i v F hi e hv => by subst hv; exact ⟨_, tg_name, hw _, hs i F (by omega) e⟩

/-! ### while, for -/
variable {D : Ends} {c : TT} {tw : TS}
theorem s_while (W : Nat → L2.St → Hp → Prop) (m0 : Nat) (h0 : W m0 σ H)
    (hs : ∀ m σ' H', W m σ' H' → ∃ b Kx, Ex Kx H' ∧ T c σ' Kx b ∧ (b = true → ∀ H1, Ex H' H1 → tw { D with nx := fun σ2 H2 => ∃ m', m' < m ∧ W m' σ2 H2, ct := fun σ2 H2 => ∃ m', m' < m ∧ W m' σ2 H2, bk := D.nx } σ' H1) ∧ (b = false → ∀ H1, Ex H' H1 → D.nx σ' H1)) : tWhile c tw D σ H :=
  ⟨W, ⟨m0, h0⟩, fun m σ' H' hw => by
    obtain ⟨b, Kx, ex, hb, h1, h2⟩ := hs m σ' H' hw
    refine hb H' ex _ fun H1 e => ?_
    cases b with
    | true => exact ⟨_, fun _ _ h => h, h1 rfl H1 e⟩
    | false => exact h2 rfl H1 e⟩
/-- for over a range: Pv by the turn, the slots, the heap -/
theorem s_for {R : Nat → Hp → V → Prop} {wi : TI} {g : TG} {n : Nat} (h : IT R wi σ K n) (ex : Ex K H) (Pv : Hp → Nat → L2.St → Hp → Prop) (h0 : ∀ F H1, Grow K H F H1 → Pv F 0 σ H1) (hG : ∀ F i σ' H', Pv F i σ' H' → Ex F H')
    (hs : ∀ F i v σ' H' H'', i < n → Pv F i σ' H' → (∀ F3, Ex F F3 → Ex F3 H' → ∃ F4, Grow F3 H' F4 H'' ∧ R i F4 v) → g v σ' H'' fun σ2 H2 => tw { D with nx := Pv F (i + 1), ct := Pv F (i + 1), bk := D.nx } σ2 H2)
    (hd : ∀ F σ' H', Pv F n σ' H' → D.nx σ' H') : tFor wi g tw D σ H :=
  h H ex _ fun J H2 F G Y gr w hGG hY => for_it w (Pv F) (h0 F H2 gr) (fun i σ' H' _ p => hGG H' (hG F i σ' H' p)) (fun i v σ' H' H'' hi p hy => hs F i v σ' H' H'' hi p fun F3 e1 e2 => hY i H' v H'' F3 hi e1 e2 hy) (hd F)
theorem s_forR1 {n : Int} {j : Nat} (h : E rInt ta σ K n) (h0 : 0 ≤ n) (h1 : n ≤ 100000) (ex : Ex K H) (Pv : Nat → L2.St → Hp → Prop) (hb : ∀ H1, Ex H H1 → Pv 0 σ H1)
    (hs : ∀ (i : Nat) σ' H', (i : Int) < n → Pv i σ' H' → tw { D with nx := Pv (i + 1), ct := Pv (i + 1), bk := D.nx } (σ'.set j (some (.int (i : Int)))) H') (hd : ∀ σ' H', Pv n.toNat σ' H' → D.nx σ' H') : tFor (iRng1 (tCons ta tNil)) (gName j) tw D σ H :=
  h H ex _ fun v H2 F g hv => ⟨n, by cases hv; rfl, by omega, by omega, for_range (lo := 0) (n := n.toNat) Pv (hb H2 g.h) (fun i σ' H' hi p => by
    have e0 : (0 : Int) + (i : Int) = (i : Int) := Int.zero_add _
    show tw { D with nx := Pv (i + 1), ct := Pv (i + 1), bk := D.nx } (σ'.set j (some (.int ((0 : Int) + (i : Int))))) H'
    rw [e0]
    exact hs i σ' H' (by omega) p) hd⟩
theorem s_forR2 {lo n : Int} {j : Nat} (h : E rInt ta σ K lo) (h' : E rInt tb σ K n) (h0 : -100000 ≤ lo ∧ lo ≤ 100000) (h1 : -100000 ≤ n ∧ n ≤ 100000) (ex : Ex K H) (Pv : Nat → L2.St → Hp → Prop) (hb : ∀ H1, Ex H H1 → Pv 0 σ H1)
    (hs : ∀ (i : Nat) σ' H', lo + (i : Int) < n → Pv i σ' H' → tw { D with nx := Pv (i + 1), ct := Pv (i + 1), bk := D.nx } (σ'.set j (some (.int (lo + (i : Int))))) H') (hd : ∀ σ' H', Pv (n - lo).toNat σ' H' → D.nx σ' H') : tFor (iRng2 (tCons ta (tCons tb tNil))) (gName j) tw D σ H :=
  two h h' H ex _ fun v w H2 F g hv hw => ⟨lo, n, by cases hv; cases hw; rfl, by omega, for_range (lo := lo) (n := (n - lo).toNat) Pv (hb H2 g.h) (fun i σ' H' hi p => hs i σ' H' (by omega) p) hd⟩
/-- an own list grows by an item -/
theorem s_app {o : Addr} {xs : List V} {i : Nat} [Mono r] (hi : σ[i]? = some (some (.ref o))) (hk : K o = none) (ho : H o = some (.lst xs)) (hz : xs.length < 100000) (ex : Ex K H) (h : E r te σ K x)
    (k : ∀ v H2 F, Grow K H F H2 → r F v x → F o = none → D.nx σ (upd H2 o (.lst (xs ++ [v])))) : tDrop (tBM Kf "list" rAppend (tVar i) (tCons te tNil)) D σ H :=
  ⟨.ref o, hi, Or.inl ⟨rfl, xs, sq_of ho⟩, h H ex _ fun v H2 F g hv => ⟨o, xs, v, rfl, rfl, g.h o _ ho, sz_lt hz, k v H2 F g hv (by
    cases z : F o with
    | none => rfl
    | some u => have := g.n o hk (by rw [z]; exact fun z => nomatch z); rw [ho] at this; cases this)⟩⟩
/-- the same, where the item is reckoned from the list itself -/
theorem s_app_own {o : Addr} {xs : List V} {i : Nat} [Mono r] [Flat r] (hi : σ[i]? = some (some (.ref o))) (hk : K o = none) (ho : H o = some (.lst xs)) (hz : xs.length < 100000) (ex : Ex K H) (h : E r te σ (upd K o (.lst xs)) x)
    (k : ∀ v H2 F, Grow K H F H2 → r F v x → F o = none → D.nx σ (upd H2 o (.lst (xs ++ [v])))) : tDrop (tBM Kf "list" rAppend (tVar i) (tCons te tNil)) D σ H :=
  ⟨.ref o, hi, Or.inl ⟨rfl, xs, sq_of ho⟩, h.own hk H ex ho _ fun v H2 F g hv => ⟨o, xs, v, rfl, rfl, g.h o _ ho, sz_lt hz, k v H2 F g hv (by
    cases z : F o with
    | none => rfl
    | some u => have := g.n o hk (by rw [z]; exact fun z => nomatch z); rw [ho] at this; cases this)⟩⟩
end
end Y

set_option Elab.async false
set_option linter.all false
set_option maxRecDepth 100000
set_option maxHeartbeats 1000000
/-! # What raises an own error; equality of fractions -/
namespace Y
open PySem L2
section
variable {α β : Type} {r : Rp α} {s : Rp β} {σ : L2.St} {K K' H : Hp} {ta tb tl te : TE} {t u : TT} {x : α} {y : β} {Kf : PySem.W.Frag} {D : Ends}
/-- a made error: its dict -/
def BadAt (H : Hp) (d : Addr) : Prop := ∃ fs : List (Str × V), H d = some (.xd fs) ∧ fs.lookup ("code" : Str) = some (.str ("BadNumber" : Str)) ∧ ∃ z : Str, fs.lookup ("why" : Str) = some (.str z) ∧ z ≠ ("" : Str)
theorem BadAt.up {H H' : Hp} {d : Addr} (e : Ex H H') (h : BadAt H d) : BadAt H' d := by
  obtain ⟨fs, h1, h2⟩ := h
  exact ⟨fs, e _ _ h1, h2⟩
def ResX (C : Addr) (K H : Hp) (E : XK) : Prop := ∀ d H' F, Grow K H F H' → BadAt F d → E (.ref C) (some d) H'
theorem ResX.from {C : Addr} {H H' F' : Hp} {E : XK} (g : Grow K H F' H') (h : ResX C K H E) : ResX C F' H' E := fun d H2 F g2 b => h d H2 F (g.trans g2) b
/-- a reading that raises -/
def XX (C : Addr) (te : TE) (σ : L2.St) (K : Hp) (E : XK) : Prop := ∀ H, Ex K H → ResX C K H E → ∀ Q, te σ H Q
def XA (C : Addr) (ta : TA) (σ : L2.St) (K : Hp) (E : XK) : Prop := ∀ H, Ex K H → ResX C K H E → ∀ Q, ta σ H Q
theorem xx_call {C : Addr} {P : PP} {sp : Sp} {E : XK} {tr : TA} (h : EA P tr σ K) (hs : ∀ F H vs Q, Ex F H → P F vs → ResX C F H E → sp vs H Q E) : XX C (tCall sp [] E tr) σ K E :=
  fun H a q Q => h H a _ fun vs H2 F g hp => by
    show sp (vs ++ []) H2 Q E
    rw [List.append_nil]
    exact hs F H2 vs Q g.f hp (q.from g)
theorem xx_in {C : Addr} {sp : Sp} {E E' : XK} {tr : TA} (h : XA C tr σ K E) : XX C (tCall sp [] E' tr) σ K E := fun H a q Q => h H a q _
theorem xa_one {C : Addr} {E : XK} {tr : TA} (h : XX C te σ K E) : XA C (tCons te tr) σ K E := fun H a q Q => h H a q _
theorem xa_two {C : Addr} {E : XK} {tr : TA} (h : EN r te σ K ([] : List α)) (h' : XA C tr σ K E) : True := trivial
theorem s_retX {C : Addr} {E : XK} (h : XX C te σ K E) (ex : Ex K H) (q : ResX C K H E) : tRet te D σ H := h H ex q _
theorem s_dropX {C : Addr} {E : XK} (h : XX C te σ K E) (ex : Ex K H) (q : ResX C K H E) : tDrop te D σ H := h H ex q _
/-- equality of fractions -/
def qD (q : Rat) : PyData := .tuple [.int q.num, .int (q.den : Int)]
theorem dp_q {v : V} {q : Rat} (h : rQ Kf K v q) : Dp Kf K v (qD q) := by
  obtain ⟨a, rfl, h⟩ := h
  exact .tup h (.cons (.int _) (.cons (.int _) .nil))
theorem sh_q (q : Rat) : SeqAt.shaped (qD q) = true := by
  unfold qD SeqAt.shaped; rfl
theorem eqv_q (a b : Rat) : PyData.eqv (qD a) (qD b) = decide (a = b) := by
  show ((a.num == b.num) && (((a.den : Int) == (b.den : Int)) && true)) = decide (a = b)
  by_cases h : a = b
  · subst h; simp
  · rw [decide_eq_false h]
    by_cases h1 : a.num = b.num
    · by_cases h2 : a.den = b.den
      · exact absurd (Rat.ext h1 h2) h
      · simp [h1, show ¬ ((a.den : Int) = b.den) by omega]
    · simp [h1]
theorem e_eqQ {a b : Rat} (ha : E (rQ Kf) ta σ K a) (hb : E (rQ Kf) tb σ K b) : E rBl (tOp (rEqD Kf) ta tb) σ K (decide (a = b)) :=
  fun H e Q q => two ha hb H e _ fun v w H2 F g hv hw => ⟨_, _, dp_q (up g.f hv), dp_q (up g.f hw), sh_q _, sh_q _, q _ H2 F g (by rw [eqv_q]; rfl)⟩
theorem e_neQ {a b : Rat} (ha : E (rQ Kf) ta σ K a) (hb : E (rQ Kf) tb σ K b) : E rBl (tOp (rNeD Kf) ta tb) σ K (!decide (a = b)) :=
  fun H e Q q => two ha hb H e _ fun v w H2 F g hv hw => ⟨_, _, dp_q (up g.f hv), dp_q (up g.f hw), sh_q _, sh_q _, q _ H2 F g (by rw [eqv_q]; rfl)⟩
end
end Y

set_option Elab.async false
set_option linter.all false
set_option maxRecDepth 100000
set_option maxHeartbeats 2000000
/-! # Own errors whose context is None; calls under a handler -/
namespace L2
open PySem PySem.Spec PyProof.Rows
section
variable {P : Program} {w : World} {K : PySem.W.Frag} {mg : Str → Option Value} {base : Heap}
/-- as Fun.okX, the context of what is let out being None -/
theorem Fun.okN {x qual : Str} {st : Stmt} {f : Addr} {fd : FuncData} {N ps : List Str} {k : Nat} {sp : Sp} (G : Fun K x qual st f fd) (S : FnScope N ps (defScope st)) (hlen : ∀ vs H Q E, sp vs H Q E → vs.length = ps.length)
    (hb : ∀ (cdv : Value) (A : Around) (outer : List Env) (s : Shared) (H : Hp) (vs : List V) (Q : VK) (E : XK), Room k (A.deeper (envOfC qual (defScope st) s.heap.objs.size f cdv)) → sp vs H Q E →
      ∃ t, PSs (cxOf (L2N.CX P w) P w K mg base N qual (defScope st) f cdv A outer s H E) (defBody st) t ∧ t { nx := fun _ H' => Q .non H', rt := Q } (start N vs) H) : FnOk P w K mg base (L2N.CX P w) (k + 1) f fd ps sp := by
  obtain ⟨_, _, _, _, _, _, cdv, _, _, rfl, hl, hc⟩ := G.ex
  exact fn_of hl hc S hlen fun A outer s H vs Q E hr q => hb cdv A outer s H vs Q E hr q
/-- a def that is called while an exception is handled -/
theorem Fun.okH {x qual : Str} {st : Stmt} {f : Addr} {fd : FuncData} {N ps : List Str} {k : Nat} {sp : Sp} (G : Fun K x qual st f fd) (S : FnScope N ps (defScope st)) (hlen : ∀ vs H Q E, sp vs H Q E → vs.length = ps.length)
    (hb : ∀ (cdv : Value) (A : Around) (outer : List Env) (s : Shared) (H : Hp) (vs : List V) (Q : VK) (E : XK) (p : Addr × Obj), L2H.RoomH k (A.deeper (envOfC qual (defScope st) s.heap.objs.size f cdv)) → sp vs H Q E →
      ∃ t, PSs (L2H.cxH CX0 P w K mg base N qual (defScope st) f cdv A outer s H E p) (defBody st) t ∧ t { nx := fun _ H' => Q .non H', rt := Q } (start N vs) H) : L2H.FnH P w K mg base CX0 (k + 1) f fd ps sp := by
  obtain ⟨_, _, _, _, _, _, cdv, _, _, rfl, hl, hc⟩ := G.ex
  exact L2H.fn_ofH hl hc S hlen fun A outer s H vs Q E p _ hr q => hb cdv A outer s H vs Q E p hr q
end
theorem passLN {X : Cx} : Passes (L2N.CX X.prog X.w) X E0 := fun _ _ _ _ _ _ _ h => by
  obtain ⟨_, _, _, _, _, _, _, _, _, _, _, _, z⟩ := h
  exact z.elim
section
variable {X : Cx} {e : Expr} {es : List Expr} {ta : TA} {p pos : Pos}
/-- C(e, ..), the error's context told -/
theorem pmkN {CX : CXT} {x : Str} {C fI : Addr} {k : Nat} {fd : FuncData} {ps : List Str} {sp : Sp} {ds : List Value} {dvs : List V} (T : OexC X.K C) (iC : PySem.W.findIn X.K (.ref C) "__init__" = some (some (.ref fI))) (tI : PySem.W.typeIn X.K (.ref fI) = some (.type "function"))
    (F1 : FnOk X.prog X.w X.K X.mg X.base CX k fI fd ps sp) (hr : Room (k + 1) X.A) (hb : Binds X.K fd ps ds) (hd : Vals dvs ds) (hx : Passes CX X (fun _ _ _ => False)) (hg : Gl X x) (hm : X.mg x = some (.ref C)) (ha : PA X (e :: es) ta)
    (hdb : (x == ("__debug__" : Str)) = false := by decide) (he : starEach (e :: es) X.env = (false, eval e X.env) :: starEach es X.env := by rfl) (hpl : (backTo pos (starEach es X.env)).any (·.1) = false := by rfl) :
    L2N.PMk X (.Call (.Name x p) (e :: es) [] pos) (tMkO C sp dvs ta) := by
  intro pins s0 σ H Q I h
  have ⟨_, _, _, _, bm, _, _, _, _, _, _, _, _, _, _, hC, hbm⟩ := T.cls
  refine wpAny_Call_Name_kw (ld_glob I hg hm ?_ hdb)
  refine PySem.W.callWith_K (h₀ := X.base) I.ok.mod.kin T.kC (thn (ha.run pos pins s0 σ H _ I h) fun us s1 ⟨vs, H1, J1, rv, hz, q1⟩ => ⟨J1.kIn, ?_⟩) he hpl
  show wpAny _ _ (call (.ref C) us) _ _ _
  obtain ⟨hp, gs, dr, tk, os⟩ := s1
  let e1 : Addr := hp.objs.size + 1
  let hh : Heap := (hp.push (PySem.W.kdv_tup us)).push (PySem.HandSPX.excO C hp.objs.size)
  have le : hp.objs.size ≤ e1 := Nat.le_succ _
  have hq := q1 e1 (J1.hok.fresh le)
  have keep : ∀ b o, hp.get? b = some o → hh.get? b = some o := fun b o z => Heap.get?_push_of_some _ (Heap.get?_push_of_some _ z)
  have got : hh.get? e1 = some (PySem.HandSPX.excO C hp.objs.size) := by
    show ((hp.push (PySem.W.kdv_tup us)).push (PySem.HandSPX.excO C hp.objs.size)).get? (hp.objs.size + 1) = _
    heap_get
  have J2 : Inv X pins σ (upd H1 e1 (exo e1 C none)) ⟨hh, gs, dr, tk, os⟩ := J1.laid (t' := tk) keep le (exo_ok got)
  have r2 : Vals (V.ref e1 :: (vs ++ dvs)) (Value.ref e1 :: (us ++ ds)) := .cons rfl (rv.append hd)
  have hl : (Value.ref e1 :: us ++ ds).length = ps.length := by
    have z := r2.length
    rw [F1.len _ _ _ _ hq] at z
    exact z.symm
  have hus : us.length ≤ sizeLine := by
    have := Paired.length rv
    rw [sizeLine_eq]; omega
  refine wpAny_call (PySem.HandSPX.call_own F.excBase_ValueError (fun Y => PySem.HandSPX.refsVE_contains Y bm hbm) (J1.kIn _ _ hC) (PySem.W.looks_findIn J1.kIn iC) (fun self => PySem.W.bind_fn J1.kIn self tI) hus ?_)
  refine codeAny_mono (F1.run _ X.stack _ _ ⟨Value.ref e1 :: us, []⟩ (Value.ref e1 :: (us ++ ds)) _ _ (fun _ _ _ => False) (hr.make C us []) (J2.env0.make C us []) (hb _ (Value.ref e1 :: us) J2.kIn hl) r2 hq) fun r s2 hq' => ?_
  match r, hq' with
  | .error er, hq' => exact hx pins σ _ _ er s2 J2 hq'
  | .ok (.ret u), hq' =>
    obtain ⟨v, H2, os2, b2, un2, hok2, rv2, ev, d, fs, ea, ed, hd1, q2⟩ := hq'
    subst ev
    obtain ⟨h2, g2, d2, t2, os'⟩ := s2
    refine ⟨rv2, ?_⟩
    obtain ⟨t0, G, J, kG, ge, hoe, na⟩ := mk_end0 (d2 := d2) (t2 := t2) J1 le keep un2 hok2 os2 b2 ea ed hd1
    exact ⟨e1, _, _, ⟨G, g2, d2, t2, os'⟩, _, .ref C, some d, rfl, J, kG, ge, hoe, ⟨rfl, rfl, fun vs z => by cases z; rfl⟩, rfl, rfl, na, rfl, b2, raises_own T.exC T.tyC, q2⟩
  | .ok .next, hq' => exact False.elim hq'
  | .ok .brk, hq' => exact False.elim hq'
  | .ok .cont, hq' => exact False.elim hq'
end
end L2

set_option Elab.async false
set_option linter.all false
set_option maxRecDepth 100000
set_option maxHeartbeats 1000000
/-! # Own objects that change: M, apart from what is known -/
namespace Y
open PySem L2
/-- H without what M has -/
def sub (H M : Hp) : Hp := fun a => match M a with | some _ => none | none => H a
theorem sub_none {H M : Hp} {a : Addr} (h : M a = none) : sub H M a = H a := by unfold sub; rw [h]
theorem sub_some {H M : Hp} {a : Addr} {u : HO} (h : M a = some u) : sub H M a = none := by unfold sub; rw [h]
theorem sub_le {H M : Hp} : Ex (sub H M) H := fun a o h => by
  cases e : M a with
  | none => rwa [sub_none e] at h
  | some u => rw [sub_some e] at h; cases h
def em : Hp := fun _ => none
theorem sub_em {H : Hp} : sub H em = H := funext fun _ => rfl
structure GM (K H M F H' M' : Hp) : Prop where
  g : Grow K (sub H M) F (sub H' M')
  m : Ex M' H'
section
variable {K H M F H' M' F' H2 M2 K0 H0 M0 : Hp}
theorem GM.k (g : GM K H M F H' M') : Ex K F := g.g.k
theorem GM.f (g : GM K H M F H' M') : Ex F H' := g.g.f.trans sub_le
theorem GM.fm (g : GM K H M F H' M') {a : Addr} {u : HO} (h : M' a = some u) : F a = none := g.g.f.free (sub_some h)
theorem GM.mf (g : GM K H M F H' M') {a : Addr} {u : HO} (h : F a = some u) : M' a = none := by
  cases e : M' a with
  | none => rfl
  | some o => rw [g.fm e] at h; cases h
theorem GM.refl (h : Ex K (sub H M)) (m : Ex M H) : GM K H M K H M := ⟨Grow.refl h, m⟩
theorem GM.start (h : Ex K H) : GM K H em K H em := ⟨by rw [sub_em]; exact Grow.refl h, fun _ _ z => nomatch z⟩
theorem GM.trans (a : GM K H M F H' M') (b : GM F H' M' F' H2 M2) : GM K H M F' H2 M2 := ⟨a.g.trans b.g, b.m⟩
theorem GM.done (g : GM K H em F H' M') : Grow K H F H' := by
  have := g.g
  rw [sub_em] at this
  exact ⟨this.h.trans sub_le, this.k, this.f.trans sub_le, this.n⟩
/-- what leaves the own objects alone -/
theorem GM.grow (g : GM K0 H0 M0 K H M) (e : Grow K H F H2) : GM K0 H0 M0 F H2 M := by
  have fm : ∀ a u, M a = some u → F a = none := fun a u h => by
    cases z : F a with
    | none => rfl
    | some o =>
      have := e.n a (g.fm h) (by rw [z]; exact fun z => nomatch z)
      rw [g.m _ _ h] at this; cases this
  refine ⟨g.g.trans ⟨fun a u h => ?_, e.k, fun a u h => ?_, fun a h1 h2 => ?_⟩, g.m.trans e.h⟩
  · cases z : M a with
    | none => rw [sub_none z] at h ⊢; exact e.h _ _ h
    | some o => rw [sub_some z] at h; cases h
  · cases z : M a with
    | none => rw [sub_none z]; exact e.f _ _ h
    | some o => rw [fm a o z] at h; cases h
  · cases z : M a with
    | none => rw [sub_none z]; exact e.n a h1 h2
    | some o => exact sub_some z
theorem GM.ex (g : GM K0 H0 M0 K H M) (e : Ex H H2) : GM K0 H0 M0 K H2 M := g.grow (Grow.of g.f e)
theorem sub_upd {o : Addr} {u u' : HO} (h : M o = some u) : sub (upd H o u') (upd M o u') = sub H M := funext fun a => by
  by_cases z : a = o
  · subst z; rw [sub_some upd_same, sub_some h]
  · cases e : M a with
    | none => rw [sub_none (by rw [upd_ne z]; exact e), sub_none e, upd_ne z]
    | some w => rw [sub_some (by rw [upd_ne z]; exact e), sub_some e]
theorem ex_upd {o : Addr} {u : HO} (h : Ex M H) : Ex (upd M o u) (upd H o u) := fun a w e => by
  by_cases z : a = o
  · subst z; rw [upd_same] at e ⊢; exact e
  · rw [upd_ne z] at e ⊢; exact h _ _ e
/-- an own object changes -/
theorem GM.upd {o : Addr} {u u' : HO} (g : GM K0 H0 M0 K H M) (h : M o = some u) : GM K0 H0 M0 K (upd H o u') (L2.upd M o u') := ⟨by rw [sub_upd h]; exact g.g, ex_upd g.m⟩
/-- a new own object -/
theorem GM.new {p : Addr} {u : HO} (g : GM K0 H0 M0 K H M) (h : H p = none) : GM K0 H0 M0 K (L2.upd H p u) (L2.upd M p u) := by
  have e : sub (L2.upd H p u) (L2.upd M p u) = sub H M := funext fun a => by
    by_cases z : a = p
    · subst z; rw [sub_some upd_same, sub_none (g.m.free h), h]
    · cases e : M a with
      | none => rw [sub_none (by rw [upd_ne z]; exact e), sub_none e, upd_ne z]
      | some w => rw [sub_some (by rw [upd_ne z]; exact e), sub_some e]
  exact ⟨by rw [e]; exact g.g, ex_upd g.m⟩
/-- a new object, known at once -/
theorem GM.newk {p : Addr} {u : HO} (g : GM K0 H0 M0 K H M) (h : H p = none) : GM K0 H0 M0 (L2.upd K p u) (L2.upd H p u) M := g.grow ((Grow.refl g.f).new h)
/-- an own object stands still from now on -/
theorem GM.give {o : Addr} {u : HO} (g : GM K0 H0 M0 K H M) (h : M o = some u) (h0 : sub H0 M0 o = none) : GM K0 H0 M0 (L2.upd K o u) H (del M o) := by
  have e : Ex (sub H M) (sub H (del M o)) := fun a w z => by
    cases em : M a with
    | none =>
      rw [sub_none em] at z
      have : del M o a = none := by
        by_cases y : a = o
        · subst y; exact del_same
        · rw [del_ne y]; exact em
      rw [sub_none this]; exact z
    | some w' => rw [sub_some em] at z; cases z
  refine ⟨⟨g.g.h.trans e, g.g.k.trans (Ex.new (g.fm h)), fun a w z => ?_, fun a h1 h2 => ?_⟩, fun a w z => ?_⟩
  · by_cases y : a = o
    · subst y; rw [upd_same] at z; rw [sub_none del_same]; cases z; exact g.m _ _ h
    · rw [upd_ne y] at z; exact e _ _ (g.g.f _ _ z)
  · by_cases y : a = o
    · subst y; exact h0
    · rw [upd_ne y] at h2; exact g.g.n a h1 h2
  · by_cases y : a = o
    · subst y; rw [del_same] at z; cases z
    · rw [del_ne y] at z; exact g.m _ _ z
def jn (K M : Hp) : Hp := join K M
theorem GM.jn (g : GM K0 H0 M0 K H M) : Ex (jn K M) H := Ex.joint g.f g.m
theorem jn_l {a : Addr} {u : HO} (h : K a = some u) : jn K M a = some u := Ex.joinl K M _ _ h
theorem GM.jr (g : GM K0 H0 M0 K H M) {a : Addr} {u : HO} (h : M a = some u) : Y.jn K M a = some u := by
  unfold Y.jn join; rw [g.fm h]; exact h
theorem GM.jle (g : GM K0 H0 M0 K H M) : Ex K (Y.jn K M) := Ex.joinl K M
end
/-- relations that lean on no heap -/
class Plain {α : Type} (r : Rp α) : Prop where
  any : ∀ {F F' v x}, r F v x → r F' v x
instance : Plain rInt := ⟨id⟩
instance : Plain rBl := ⟨id⟩
instance : Plain rStr := ⟨id⟩
instance : Plain rV := ⟨id⟩
instance : Plain rNon := ⟨id⟩
section
variable {α β : Type} {r : Rp α} {s : Rp β} {σ : L2.St} {K H M K0 H0 M0 : Hp} {ta tb te tl to : TE} {t u : TT} {x : α} {y : β} {Kf : PySem.W.Frag} {D : Ends} {Q : VK}
theorem g_e (h : E r te σ K x) (g : GM K0 H0 M0 K H M) (k : ∀ v H2 F, GM K0 H0 M0 F H2 M → Ex K F → r F v x → Q v H2) : te σ H Q := h H g.f Q fun v H2 F gr hv => k v H2 F (g.grow gr) gr.k hv
theorem g_eM [Plain r] (h : E r te σ (jn K M) x) (g : GM K0 H0 M0 K H M) (k : ∀ v H2, GM K0 H0 M0 K H2 M → r K v x → Q v H2) : te σ H Q := h H g.jn Q fun v H2 F gr hv => k v H2 (g.ex gr.h) (Plain.any hv)
theorem g_t {b : Bool} {Qb : Bool → Hp → Prop} (h : T t σ (jn K M) b) (g : GM K0 H0 M0 K H M) (k : ∀ H2, GM K0 H0 M0 K H2 M → Qb b H2) : t σ H Qb := h H g.jn Qb fun H2 e => k H2 (g.ex e)
theorem g_if {b : Bool} {tw tz : TS} (h : T t σ (jn K M) b) (g : GM K0 H0 M0 K H M) (h1 : b = true → ∀ H2, GM K0 H0 M0 K H2 M → tw D σ H2) (h2 : b = false → ∀ H2, GM K0 H0 M0 K H2 M → tz D σ H2) : tIfS t tw tz D σ H := g_t h g fun H2 g2 => by
  cases b with
  | true => exact h1 rfl H2 g2
  | false => exact h2 rfl H2 g2
theorem g_ife {b : Bool} (h : T t σ (jn K M) b) (g : GM K0 H0 M0 K H M) (h1 : b = true → ∀ H2, GM K0 H0 M0 K H2 M → ta σ H2 Q) (h2 : b = false → ∀ H2, GM K0 H0 M0 K H2 M → tb σ H2 Q) : tIf t ta tb σ H Q := g_t h g fun H2 g2 => by
  cases b with
  | true => exact h1 rfl H2 g2
  | false => exact h2 rfl H2 g2
theorem g_set {i : Nat} (h : E r te σ K x) (g : GM K0 H0 M0 K H M) (k : ∀ v H2 F, GM K0 H0 M0 F H2 M → Ex K F → r F v x → D.nx (σ.set i (some v)) H2) : tAsg te (gName i) D σ H := g_e h g k
theorem g_setM [Plain r] {i : Nat} (h : E r te σ (jn K M) x) (g : GM K0 H0 M0 K H M) (k : ∀ v H2, GM K0 H0 M0 K H2 M → r K v x → D.nx (σ.set i (some v)) H2) : tAsg te (gName i) D σ H := g_eM h g k
/-- i = [] -/
theorem g_nil {i : Nat} (g : GM K0 H0 M0 K H M) (k : ∀ p, H p = none → GM K0 H0 M0 K (upd H p (.lst [])) (upd M p (.lst [])) → D.nx (σ.set i (some (.ref p))) (upd H p (.lst []))) : tAsg (tLst tNil) (gName i) D σ H :=
  ⟨Nat.zero_le _, fun p hp => k p hp (g.new hp)⟩
/-- a list, made as own -/
theorem g_setN {i : Nat} {xs : List α} [Mono r] (h : EN r te σ K xs) (g : GM K0 H0 M0 K H M) (k : ∀ p vs H2 F, GM K0 H0 M0 F H2 (upd M p (.lst vs)) → Ex K F → H p = none → Paired (r F) vs xs → D.nx (σ.set i (some (.ref p))) H2) : tAsg te (gName i) D σ H := by
  refine h H g.f _ fun p vs H2 F gr fp hp h2 hv => k p vs H2 F ?_ gr.k hp hv
  have g2 := g.grow gr
  have mp : M p = none := g.m.free hp
  refine ⟨⟨fun a w z => ?_, g2.g.k, fun a w z => ?_, g2.g.n⟩, fun a w z => ?_⟩
  · have y : a ≠ p := fun y => by
      subst y
      have := sub_le _ _ (g.g.h _ _ z)
      rw [hp] at this; cases this
    have := g2.g.h _ _ z
    cases e : M a with
    | none => rw [sub_none e] at this; rw [sub_none (by rw [upd_ne y]; exact e)]; exact this
    | some o => rw [sub_some e] at this; cases this
  · have y : a ≠ p := fun y => by subst y; rw [fp] at z; cases z
    have := g2.g.f _ _ z
    cases e : M a with
    | none => rw [sub_none e] at this; rw [sub_none (by rw [upd_ne y]; exact e)]; exact this
    | some o => rw [sub_some e] at this; cases this
  · by_cases y : a = p
    · subst y; rw [upd_same] at z; cases z; exact h2
    · rw [upd_ne y] at z; exact g2.m _ _ z
/-- o.pop() -/
theorem g_pop {o : Addr} {ys : List V} {v : V} (ho : ∀ Q : VK, Q (.ref o) H → to σ H Q) (hm : M o = some (.lst (ys ++ [v]))) (g : GM K0 H0 M0 K H M) (k : GM K0 H0 M0 K (upd H o (.lst ys)) (upd M o (.lst ys)) → Q v (upd H o (.lst ys))) :
    tBM0 Kf "list" rPop to σ H Q :=
  ho _ ⟨Or.inl ⟨rfl, _, sq_of (g.m _ _ hm)⟩, o, ys ++ [v], v, rfl, rfl, g.m _ _ hm, by simp, by rw [List.dropLast_concat]; exact k (g.upd hm)⟩
/-- o.append(e) -/
theorem g_app {o : Addr} {us : List V} (ho : ∀ Q : VK, Q (.ref o) H → to σ H Q) (hm : M o = some (.lst us)) (g : GM K0 H0 M0 K H M)
    (he : te σ H fun v H2 => rAppend (.ref o) [v] H2 fun _ H3 => D.nx σ H3) : tDrop (tBM Kf "list" rAppend to (tCons te tNil)) D σ H := ho _ ⟨Or.inl ⟨rfl, _, sq_of (g.m _ _ hm)⟩, he⟩
theorem g_push {o : Addr} {xs : List V} {v : V} {Q : VK} (hm : M o = some (.lst xs)) (g : GM K0 H0 M0 K H M) (hz : xs.length < 100000)
    (k : GM K0 H0 M0 K (upd H o (.lst (xs ++ [v]))) (upd M o (.lst (xs ++ [v]))) → Q .non (upd H o (.lst (xs ++ [v])))) : rAppend (.ref o) [v] H Q := ⟨o, xs, v, rfl, rfl, g.m _ _ hm, sz_lt hz, k (g.upd hm)⟩
/-- the item is reckoned from what is known -/
theorem g_appE {o : Addr} {us : List V} (ho : ∀ Q : VK, Q (.ref o) H → to σ H Q) (hm : M o = some (.lst us)) (g : GM K0 H0 M0 K H M) (hz : us.length < 100000) (he : E r te σ K x)
    (k : ∀ v H2 F, GM K0 H0 M0 F (upd H2 o (.lst (us ++ [v]))) (upd M o (.lst (us ++ [v]))) → Ex K F → r F v x → D.nx σ (upd H2 o (.lst (us ++ [v])))) : tDrop (tBM Kf "list" rAppend to (tCons te tNil)) D σ H :=
  g_app ho hm g (g_e he g fun v H2 F g2 e hv => g_push hm g2 hz fun g3 => k v H2 F g3 e hv)
theorem o_var {i : Nat} {v : V} (hi : σ[i]? = some (some v)) : ∀ Q : VK, Q v H → tVar i σ H Q := fun Q q => ⟨v, hi, q⟩
/-- o[i] = e -/
theorem g_put {o : Addr} {us : List V} {k n : Nat} {v : V} {H2 : Hp} {ti : TE} {Q : L2.St → Hp → Prop} (ho : ∀ Q : VK, Q (.ref o) H → to σ H Q) (hi : ∀ Q : VK, Q (.int (k : Int)) H → ti σ H Q) (hm : M o = some (.lst us)) (hn : us.length = n) (hk : k < n) (g : GM K0 H0 M0 K H M)
    (kk : GM K0 H0 M0 K (upd H o (.lst (us.set k v))) (upd M o (.lst (us.set k v))) → Q σ (upd H o (.lst (us.set k v)))) : gSub to ti rSetL v σ H Q :=
  ho _ (hi _ ⟨o, us, (k : Int), k, rfl, rfl, g.m _ _ hm, by unfold ixN; rw [if_pos (by omega), if_pos (by omega)]; simp, kk (g.upd hm)⟩)
/-- a walk: what turn i gives is told by R -/
theorem g_forI {R : Nat → Hp → V → Prop} {wi : TI} {gt : TG} {tw : TS} {n : Nat} (h : IT R wi σ K n) (g : GM K0 H0 M0 K H M) (inv : Nat → Hp → Hp → L2.St → Prop) (h0 : ∀ F, Ex K F → inv 0 F M σ)
    (hs : ∀ F0, Ex K F0 → ∀ i v F M' σ' H', i < n → inv i F M' σ' → GM K0 H0 M0 F H' M' → Ex F0 F → (∃ F', Ex F' F ∧ inv i F' M' σ') → R i F v →
      gt v σ' H' fun σ1 H1 => tw { D with nx := fun σ2 H2 => ∃ F2 M2, GM K0 H0 M0 F2 H2 M2 ∧ Ex F0 F2 ∧ inv (i + 1) F2 M2 σ2, ct := fun σ2 H2 => ∃ F2 M2, GM K0 H0 M0 F2 H2 M2 ∧ Ex F0 F2 ∧ inv (i + 1) F2 M2 σ2, bk := D.nx } σ1 H1)
    (hu : ∀ i F F' M' σ', Ex F F' → inv i F M' σ' → inv i F' M' σ')
    (hd : ∀ F M' σ' H', inv n F M' σ' → GM K0 H0 M0 F H' M' → Ex K F → D.nx σ' H') : tFor wi gt tw D σ H := by
  refine h H g.f _ fun J H1 F G Y gr w hG hY => ?_
  have g1 := g.grow gr
  refine for_it w (fun i σ' H' => ∃ F' M', GM K0 H0 M0 F' H' M' ∧ Ex F F' ∧ inv i F' M' σ') ⟨F, M, g1, Ex.refl F, h0 F gr.k⟩
    (fun i σ' H' _ ⟨F', M', a, e, _⟩ => hG H' (e.trans a.f)) (fun i v σ' H' H'' hi ⟨F', M', a, e, ii⟩ hy => ?_) fun σ' H' ⟨F', M', a, e, ii⟩ => ?_
  · obtain ⟨F4, g4, hR⟩ := hY i H' v H'' F' hi e a.f hy
    exact hs F gr.k i v F4 M' σ' H'' hi (hu i F' F4 M' σ' g4.k ii) (a.grow g4) (e.trans g4.k) ⟨F', g4.k, ii⟩ hR
  · exact hd F' M' σ' H' ii a (gr.k.trans e)
/-- a walk over a known list -/
theorem g_for {xs : List α} [Mono r] {gt : TG} {tw : TS} (h : E (rLst r) tl σ K xs) (g : GM K0 H0 M0 K H M) (inv : List α → Hp → Hp → L2.St → Prop) (h0 : ∀ F, Ex K F → inv xs F M σ)
    (hu : ∀ l F F' M' σ', Ex F F' → inv l F M' σ' → inv l F' M' σ')
    (hs : ∀ F0, Ex K F0 → ∀ x rest v F M' σ' H', inv (x :: rest) F M' σ' → GM K0 H0 M0 F H' M' → Ex F0 F → r F v x →
      gt v σ' H' fun σ1 H1 => tw { D with nx := fun σ2 H2 => ∃ F2 M2, GM K0 H0 M0 F2 H2 M2 ∧ Ex F0 F2 ∧ inv rest F2 M2 σ2, ct := fun σ2 H2 => ∃ F2 M2, GM K0 H0 M0 F2 H2 M2 ∧ Ex F0 F2 ∧ inv rest F2 M2 σ2, bk := D.nx } σ1 H1)
    (hd : ∀ F M' σ' H', inv [] F M' σ' → GM K0 H0 M0 F H' M' → Ex K F → D.nx σ' H') : tFor (iList Kf tl) gt tw D σ H := by
  refine g_forI (it_list (Kf := Kf) h) g (fun i => inv (xs.drop i)) h0 (fun F0 e0 i v F M' σ' H' hi ii a e _ hR => ?_) (fun i => hu _) fun F M' σ' H' ii a e => hd F M' σ' H' (by rwa [List.drop_of_length_le (Nat.le_refl _)] at ii) a e
  obtain ⟨z, h1, h2⟩ := hR
  have hz : xs.drop i = z :: xs.drop (i + 1) := by
    obtain ⟨hl, e1⟩ := List.getElem?_eq_some_iff.mp h1
    rw [List.drop_eq_getElem_cons hl, e1]
  rw [hz] at ii
  exact hs F0 e0 z _ v F M' σ' H' ii a e h2
/-- a walk over a text, sign by sign -/
def rSgn (z : List Nat) (i : Nat) : Hp → V → Prop := fun _ v => ∃ c, z[i]? = some c ∧ v = .str ⟨#[c]⟩
end
end Y

set_option Elab.async false
set_option linter.all false
set_option maxRecDepth 100000
set_option maxHeartbeats 2000000
/-! # Words that the hand layer has not: repr and == of own instances, get of a written dict, max with default, tuple of a dict -/
namespace Y
open PySem PySem.Spec PyProof.Rows L2
section
variable {X : Cx} {CX : CXT} {n : Nat} {C g : Addr} {fd : FuncData} {ps : List Str} {sp : Sp} {E' : XK}
/-- repr of an own instance: what its own def tells -/
def rReprO (C : Addr) (sp : Sp) (E' : XK) : List V → Hp → VK → Prop := fun xs H Q => ∃ a dx fs, xs = [.ref a] ∧ H a = some (.ins C dx fs) ∧ sp [.ref a] H (fun v H' => ∃ z, v = .str z ∧ Q v H') E'
theorem call_reprO (F : FnOk X.prog X.w X.K X.mg X.base CX n g fd ps sp) (hr : Room (n + 1) X.A) (hs : PySem.W.findIn X.K (.ref C) "__repr__" = some (some (.ref g))) (hf : PySem.W.isFn X.K (.ref g) = true)
    (hb : Binds X.K fd ps []) (hx : Passes CX X.nox E') : CallR X (.builtin "repr") (rReprO C sp E') := by
  intro pins s σ H xs us Q I r h
  obtain ⟨a, dx, fs, rfl, ea, q⟩ := h
  obtain ⟨u, rfl, ru⟩ := vals1 r
  obtain rfl : u = Value.ref a := ru
  obtain ⟨mA, O, _, _, _, _⟩ := ins_get I.hok ea
  obtain ⟨od, J, _⟩ := O.look
  obtain ⟨m, hF⟩ := I.fr
  refine PySem.W.repr_K hr.in1.units0 hF I.ok.mod.kin J hs hf ?_
  have hl := F.len _ _ _ _ q
  have r2 : Vals [V.ref a] [Value.ref a] := .cons rfl .nil
  refine wpAny_call (codeAny_mono (F.run X.A.in1 X.stack s H ⟨[.ref a], []⟩ [.ref a] [.ref a] _ E' hr.in1 I.env0.in1 (by
    have := hb s [.ref a] I.kIn (by simpa using hl)
    simpa using this) r2 q) fun r' s' hq => ?_)
  rcases r' with er | fl
  · exact (hx pins σ H s er s' (I.wish _) hq).elim
  · cases fl with
    | ret u2 =>
      obtain ⟨v, H2, I2, rv, z, ez, q2⟩ := I.after hq
      subst ez
      obtain ⟨t, rfl⟩ := rv
      exact ⟨.str z, H2, I2, ⟨t, rfl⟩, q2⟩
    | _ => exact False.elim hq
/-- == of two own instances: what the own def tells -/
def rEqO (C : Addr) (sp : Sp) (E' : XK) : R2 := fun x y H Q => ∃ a b dx dy fs gs, x = .ref a ∧ y = .ref b ∧ H a = some (.ins C dx fs) ∧ H b = some (.ins C dy gs) ∧ sp [.ref a, .ref b] H (fun v H' => ∃ k, v = .bl k ∧ Q v H') E'
theorem op_eqO (F : FnOk X.prog X.w X.K X.mg X.base CX n g fd ps sp) (hr : Room n X.A) (hs : PySem.W.findIn X.K (.ref C) "__eq__" = some (some (.ref g))) (hf : PySem.W.isFn X.K (.ref g) = true)
    (hb : Binds X.K fd ps []) (hx : Passes CX X E') : OpR X (compareOp .Eq) (rEqO C sp E') := by
  intro pins s σ H x y v u Q I rx ry h
  obtain ⟨a, b, dx, dy, fs, gs, rfl, rfl, ea, eb, q⟩ := h
  obtain rfl : v = Value.ref a := rx
  obtain rfl : u = Value.ref b := ry
  show wpAny (model X.prog X.w) X.A (richCompare .Eq (.ref a) (.ref b)) (EP X pins σ Q) X.xe s
  obtain ⟨_, O1, _⟩ := ins_get I.hok ea
  obtain ⟨_, O2, _⟩ := ins_get I.hok eb
  obtain ⟨_, L1, _⟩ := O1.look
  obtain ⟨_, L2', _⟩ := O2.look
  obtain ⟨m, hF⟩ := I.fr
  refine PySem.W.cmp_K (op := .Eq) (tb := .ref C) hr.units0 hF I.ok.mod.kin L1 L2'.type (by simp [PySem.W.notFirst]) hs hf ?_
  have hl := F.len _ _ _ _ q
  have r2 : Vals [V.ref a, V.ref b] [Value.ref a, Value.ref b] := .cons rfl (.cons rfl .nil)
  refine wpAny_call (codeAny_mono (F.run X.A X.stack s H ⟨[.ref a, .ref b], []⟩ [.ref a, .ref b] [.ref a, .ref b] _ E' hr I.env0 (by
    have := hb s [.ref a, .ref b] I.kIn (by simpa using hl)
    simpa using this) r2 q) fun r' s' hq => ?_)
  rcases r' with er | fl
  · exact hx pins σ H s er s' I hq
  · cases fl with
    | ret u2 =>
      obtain ⟨w2, H2, I2, rv, k, ez, q2⟩ := I.after hq
      subst ez
      cases rv
      exact ⟨.bl k, H2, I2, rfl, q2⟩
    | _ => exact False.elim hq
end
/-- tuple of a dict: its keys -/
def rTupD : List V → Hp → VK → Prop := fun xs H Q => ∃ p kvs, xs = [.ref p] ∧ H p = some (.dK kvs) ∧ ∀ q, H q = none → Q (.ref q) (upd H q (.tup (kvs.map fun kv => kV kv.1)))
theorem tuple_of_dict {prog : Program} {w : World} {d : Addr} {vs : List (Key × Value)} (lo : (d == sysModules) = false) (h16 : vs.length ≤ sizeLine) :
    MeetsIn prog w (Builtin.«tuple.__new__» ⟨[.type "tuple", .ref d], []⟩) (fun A R s => A.handled = none ∧ s.heap.DictOf (mixKind prog w) d vs ∧
      ∀ (h' : Heap) (tk : Nat) (acc : Array Value), (∀ b o, s.heap.get? b = some o → h'.get? b = some o) → acc.size = vs.length → (∀ (j : Nat) (v : Value), acc[j]? = some v → ∃ k y, vs[j]? = some (k, y) ∧ (mixKind prog w).is k v = true) →
        R (.ok (.ret (.ref h'.objs.size))) { s with heap := h'.push { cls := .type "tuple", data := .seq acc }, toks := tk }) :=
  .of_wp fun A R s ⟨hh, hd, h⟩ => by
    obtain ⟨ep, hat⟩ := hd.dictAt
    have hT : s.TypeIs (.ref d) "dict" := hd.typeIs
    obtain ⟨hp, g, dr, tk, os⟩ := s
    have e1 := sub_tuple_self
    have e2 := init_tuple_lookup
    have e3 := madeHere_tuple
    have cl : ∀ {R' : List Value → Shared → Prop} {E1 : Value → Shared → Prop}, (∀ (h' : Heap) (tk' : Nat) (acc : Array Value), (∀ b o, hp.get? b = some o → h'.get? b = some o) → acc.size = vs.length → (∀ (j : Nat) (v : Value), acc[j]? = some v → ∃ k y, vs[j]? = some (k, y) ∧ (mixKind prog w).is k v = true) → R' acc.toList ⟨h', g, dr, tk', os⟩) →
        wpAny (model prog w) A.in1 (collect (.ref d)) R' E1 ⟨hp, g, dr, tk, os⟩ := fun k =>
      PySem.W.kdu_collect (A := A.in1) (s := ⟨hp, g, dr, tk, os⟩) (PySem.W.kdl_dict (knd := mixKind prog w) (kvs := vs) (ep := ep) lo) hh hat h16 fun h' tk' acc a b => k h' tk' acc a b.1 b.2
    wp_walk using wpAny_typeOf hT, cl
    intro h' tk' acc hk hacc hat2
    show wpAny _ _ (Builtin.Tuple.tupleExact acc.toList.toArray >>= fun v => ret v) _ _ _
    unfold Builtin.Tuple.tupleExact
    have e : acc.toList.toArray = acc := by simp
    have hz : acc.size ≤ sizeLine := by rw [hacc]; exact h16
    refine wpAny_bind (wpAny_newObj_type ?_ (by rw [e]; exact hz))
    refine wpAny_pure ⟨_, rfl, ?_⟩
    rw [e]
    exact h h' tk' acc hk hacc hat2
theorem call_tupD {X : Cx} (hc : X.calm = true) : CallR X (.type "tuple") rTupD := by
  intro pins s σ H xs us Q I r h
  obtain ⟨p, kvs, rfl, ea, q⟩ := h
  obtain ⟨u, rfl, ru⟩ := vals1 r
  obtain rfl : u = Value.ref p := ru
  obtain ⟨z, lo, vs, rk, hd⟩ := (show ObjOk X.prog X.w H s.heap p (.dK kvs) from I.hok p _ ea)
  have hl : kvs.length = vs.length := Paired.length rk
  refine callType_codes (Q₁ := fun obj s₁ => s₁.TypeIs obj "tuple" ∧ EP X pins σ Q obj s₁) F.called_tuple (F.typeCall_tuple_1 _) F.entry_object_init
    (codeAny_call_builtin F.called_tuple.plain F.entry_tuple_new (wpAny_of_eq (F.newCall_tuple_1 _) (tuple_of_dict lo (by rw [← hl]; exact z) _ _ s ⟨I.ok.hd hc, hd, fun h' tk acc hk hn hat => ?_⟩))) fun obj s₁ h1 => ⟨h1.1, F.args_object_init_2 obj _, ?_⟩
  · have I1 : Inv X pins σ H { s with heap := h', toks := tk } := I.kept hk
    have el : acc.toList.length = acc.size := by simp
    have hv : Vals (kvs.map fun kv => kV kv.1) acc.toList := by
      refine vals_of_at (by rw [List.length_map, el, hn, hl]) fun j x w h1 h2 => ?_
      obtain ⟨k, y, hky, hi⟩ := hat j w (by rw [← Array.getElem?_toList]; exact h2)
      have f1 : (kvs.map (·.1))[j]? = some k := by
        rw [KV.keys rk, List.getElem?_map, hky] <;> rfl
      have f3 : (kvs.map fun kv => kV kv.1) = (kvs.map (·.1)).map kV := by rw [List.map_map] <;> rfl
      rw [f3, List.getElem?_map, f1] at h1
      cases h1
      exact keyIs_rel hi
    refine ⟨⟨_, Heap.get?_push_size _ rfl, rfl⟩, .ref h'.objs.size, upd H h'.objs.size (.tup (kvs.map fun kv => kV kv.1)), I1.laid (t' := tk) (fun c o e => Heap.get?_push_of_some _ e) (Nat.le_refl _) (show ObjOk X.prog X.w _ _ _ (.tup _) from ⟨by rw [List.length_map]; exact z, acc.toList, hv, ?_⟩), rfl, q _ (I1.hok.fresh (Nat.le_refl _))⟩
    rw [Array.toArray_toList]
    exact IsTup.new _ _
  · exact object_init_meets F.called_tuple.init.lookup F.called_tuple.made (by decide) X.prog X.w X.A.in1 _ s₁ ⟨h1.1, rfl, h1.2⟩
/-- max of a list of whole numbers, with default -/
def rMaxDf : List V → List V → Hp → VK → Prop := fun xs zs H Q => ∃ (l : Addr) (ns : List Int) (k : Int), xs = [.ref l] ∧ zs = [.int k] ∧ H l = some (.lst (ns.map V.int)) ∧ (ns = [] → Q (.int k) H) ∧ ∀ m, m ∈ ns → (∀ j ∈ ns, j ≤ m) → Q (.int m) H
theorem maxOf_spec : ∀ (xs : List Int) (x : Int), PySem.W.maxOf x xs ∈ x :: xs ∧ ∀ j ∈ x :: xs, j ≤ PySem.W.maxOf x xs
  | [], x => ⟨List.mem_singleton.mpr rfl, fun j h => by cases List.mem_singleton.mp h; exact Int.le_refl _⟩
  | y :: r, x => by
    have e : PySem.W.maxOf x (y :: r) = PySem.W.maxOf (if x < y then y else x) r := by
      show (y :: r).foldl _ x = r.foldl _ _
      rw [List.foldl_cons]
      congr 1
      show (if decide (x < y) = true then y else x) = _
      simp
    have h := maxOf_spec r (if x < y then y else x)
    rw [e]
    refine ⟨?_, fun j hj => ?_⟩
    · rcases List.mem_cons.mp h.1 with z | z
      · rw [z]; split <;> simp
      · exact List.mem_cons_of_mem _ (List.mem_cons_of_mem _ z)
    · have h0 := h.2 _ List.mem_cons_self
      rcases List.mem_cons.mp hj with z | z
      · rw [z]
        have : x ≤ if x < y then y else x := by split <;> omega
        omega
      · rcases List.mem_cons.mp z with z | z
        · rw [z]
          have : y ≤ if x < y then y else x := by split <;> omega
          omega
        · exact h.2 j (List.mem_cons_of_mem _ z)
theorem call_maxDf {X : Cx} (hc : X.calm = true) (hu : X.A.units + 1 < cLine) : CallRK X (.builtin "max") ["default"] rMaxDf := by
  intro pins s σ H xs zs us ws Q I r rz h
  obtain ⟨l, ns, k, rfl, rfl, ea, q0, q1⟩ := h
  obtain ⟨u, rfl, ru⟩ := vals1 r
  obtain rfl : u = Value.ref l := ru
  obtain ⟨d, rfl, rd⟩ := vals1 rz
  obtain ⟨its, rv, hl, _⟩ := I.list (sq_of ea)
  refine PySem.W.max_list_datum_default (xs := ns) (I.ok.hd hc) hl.isList (by simpa using PySem.W.HoldAll.of_ints rv.ints) (by show X.A.units + 1 + 0 < cLine; omega) (fun e h' tk hk => ?_) fun y ys i v h' tk e hi hv hk => ?_
  · exact ⟨.int k, H, I.kept hk, rd, q0 e⟩
  · subst e
    obtain ⟨as, rd2⟩ := hv
    obtain ⟨t, rfl⟩ : ∃ t, v = .int (PySem.W.maxOf y ys) t := by
      generalize eD : PySem.W.Datum.toD (PySem.W.maxOf y ys) = D at rd2
      have eD' : PyData.int (PySem.W.maxOf y ys) = D := eD
      subst eD'
      cases rd2
      exact ⟨_, rfl⟩
    exact ⟨.int _, H, I.kept hk, ⟨t, rfl⟩, q1 _ (maxOf_spec ys y).1 (maxOf_spec ys y).2⟩
/-- d.get(k, x) of a written dict -/
def tKGet2 (K : PySem.W.Frag) (w : World) (d : Addr) (td ty tx : TE) : TE := fun σ H Q => td σ H fun x H1 => x = .ref d ∧ ty σ H1 fun y H2 => tx σ H2 fun z H3 => ∃ (k : Str) (r : Option Value), y = .str k ∧ PySem.W.nsIn K d k = some r ∧ ((∃ v0 u0, r = some u0 ∧ RelV v0 u0 ∧ Q v0 H3) ∨ (r = none ∧ Q z H3))
theorem pe_kget2 {X : Cx} {o e f : Expr} {apos cpos : Pos} {td ty tx : TE} {d : Addr} {es : Array DictEntry} {n : Nat} (D : KDict X.K X.w d es n) (ho : PE X o td) (he : PE X e ty) (hf : PE X f tx) (m : M2 X o "get" apos e f cpos) :
    PE X (.Call (.Attribute o "get" apos) [e, f] [] cpos) (tKGet2 X.K X.w d td ty tx) := by
  refine ⟨fun pins s σ H Q I h => ?_⟩
  refine wpAny_Call_method m.base m.few m.line PySem.F.plainAttrs_dict PySem.F.slot_dict_get PySem.F.type_dict_get (thn (ho.run pins s σ H _ I h) fun u s1 ⟨x, H1, I1, rx, ex, q1⟩ => ?_)
  subst ex
  obtain rfl : u = Value.ref d := rx
  have hm := PySem.W.mapOf_K (prog := X.prog) (w := X.w) I1.kIn D.at_ D.lit
  refine ⟨hm.typeIs, fun b hb => ?_, ?_⟩
  · cases hb
    exact ⟨_, I1.kIn _ _ D.at_, rfl⟩
  rw [m.trees]
  refine Calls.callWith_builtin rfl (Calls.evalArgs_plain (Calls.spliced_cons (thn (he.run pins s1 σ H1 _ I1 q1) fun iv s2 ⟨y, H2, I2, ry, q2⟩ =>
    Calls.spliced_cons (thn (hf.run pins s2 σ H2 _ I2 q2) fun fv s3 ⟨z, H3, I3, rz, k, r, ey, en, q3⟩ => Calls.spliced_nil ?_))))
  subst ey
  obtain ⟨t, rfl⟩ := ry
  have hm3 := PySem.W.mapOf_K (prog := X.prog) (w := X.w) I3.kIn D.at_ D.lit
  refine call_meetsIn PySem.F.slot_dict_get hm3.typeIs PySem.F.entry_dict_get (PySem.F.args_dict_get_3 _ _ _) (meets_dict_get_default (PySem.strKind X.prog X.w) d (strKind_is X.prog X.w k t) D.low fv) ⟨_, hm3, ?_⟩
  show EP X pins σ Q ((findBy Value.isStrOf es k).getD fv) _
  rw [PySem.W.find_K D.at_ en]
  rcases q3 with ⟨v0, u0, rfl, rv, q4⟩ | ⟨rfl, q4⟩
  · exact ⟨v0, H3, I3.tok _, rv, q4⟩
  · exact ⟨z, H3, I3.tok _, rz, q4⟩
end Y

set_option Elab.async false
set_option linter.all false
set_option maxRecDepth 100000
set_option maxHeartbeats 4000000
/-! # Own errors over LookupError whose own def makes them; calls within try -/
namespace Y
open PySem PySem.Spec PyProof.Rows L2 PySem.W PySem.Calls Builtin Builtin.ObjectAttr PySem.HandSPX
abbrev leT : List Value := [.type "LookupError", .type "Exception", .type "BaseException", .type "object"]
theorem leT_pass (v : Value) (C : Addr) : refuseLoop v "__setattr__" (.ref C :: leT) = pure () := by
  rw [refuseLoop_ref]; kernel_rfl
theorem leT_has (C : Addr) (X : String) : (Value.ref C :: leT).contains (.type X) = leT.contains (.type X) := by rw [List.contains_cons]; rfl
section
variable {prog : Program} {w : World} {A : Around} {R : Result → Shared → Prop} {hp : Heap} {g : Array GenState} {d : Drawn} {t : Nat} {os : OsState}
theorem le_set {Kf : Frag} {name : Str} {tk : Tok} {v : Value} {x C : Addr} {fv : Array Value} {cd : ClassData} {dd : Option Addr} {od : Option Obj}
    (Z : Kf.In hp) (J : PySem.W.InstAt hp x { cls := .ref C, dict := dd, data := .fields fv } C od) (hcd : clsIn Kf C = some cd) (hm : cd.mro = .ref C :: leT) (ha : findIn Kf (.ref C) name = some none)
    (h : wpAny (model prog w) A.in1 (storeInOwnDict (.ref x) (.ref C) (.str name tk) name v false) (fun fin s' => match fin with
      | .done f => R (.ok f) s'
      | .again c' => c'.quiet = true ∧ codeAny (model prog w) A c' R s') (fun e s' => R (.error e) s') ⟨hp, g, d, t, os⟩) :
    codeAny (model prog w) A (.call (.builtin "object.__setattr__") ⟨[.ref x, .str name tk, v], []⟩) R ⟨hp, g, d, t, os⟩ := by
  have S := F.store_object
  have hob : cd.mro.contains (.type "object") = true := by rw [hm]; exact (leT_has C "object").trans (by decide +kernel)
  have hne : cd.mro.isEmpty = false := by rw [hm]; rfl
  have sub : Looks (model prog w) hp (isInstance (.ref x) (.type "object")) true := J.type.andThen (looks_mroIn Z (by unfold mroIn; rw [hcd, Option.bind_some, if_neg (by rw [hne]; decide), hob]))
  refine codeAny_call_builtin S.slot.plain S.entry (@check_slot (model prog w) _ _ ⟨hp, g, d, t, os⟩ "object.__setattr__" "object" "__setattr__" (.ref x) [.str name tk, v] [] _ S.kind S.split sub (S.args (.ref x) (.str name tk) v) ?_)
  have lm : Looks (model prog w) hp (mroOf (.ref C)) cd.mro := (looks_clsIn Z hcd).andThen .now
  have ln : Looks (model prog w) hp (storeTaker? none) none := .now
  rw [osa_eq, refuse_eq]
  refine wpAny_bind (wpAny_bind (J.type.at (wpAny_bind (lm.at ?_))))
  rw [hm, leT_pass]
  exact wpAny_pure (wpAny_bind (J.type.at (wpAny_bind ((looks_findIn Z ha).at (wpAny_bind (ln.at h))))))

theorem le_put {M : Model} {E : Value → Shared → Prop} {dx : Addr} {name : Str} {tk : Tok} {v : Value} {m0 : Str → Option Value} {nl : List Str} {Q : Fin → Shared → Prop} (hn : hp.Ns1 dx m0) (hw : Within m0 nl) (hz : nl.length ≤ 1000)
    (k : ∀ h' tk', h'.Ns1 dx (fun y => if y = name then some v else m0 y) → Heap.SameBut dx hp h' → Q (.done (.ret .none)) ⟨h', g, d, tk', os⟩) : wpAny M A (storeInDict dx (.str name tk) name v) Q E ⟨hp, g, d, t, os⟩ := by
  unfold storeInDict newKeyGuard
  refine wpAny_bind (wpAny_pure (wpAny_bind (wpAny_nsSet1 hn fun h' a b => ?_)))
  obtain ⟨o2, e2, p2, c1, c2, c3⟩ := a.count (Within.cons name v hw)
  refine wpAny_bind (wpAny_lookBehind c1 (by rw [c2]; exact pastItsLine_dict (Nat.le_trans c3 (by rw [List.length_cons, sizeLine_eq]; omega))) ?_)
  wp_walk
  exact k h' _ a b
end
theorem le_osa1 {prog : Program} {w : World} {A : Around} {R : Result → Shared → Prop} {hp : Heap} {g : Array GenState} {d : Drawn} {t : Nat} {os : OsState} {Kf : Frag} {name : Str} {tk : Tok} {v : Value} {x C : Addr} {fv : Array Value} {cd : ClassData}
    (Z : Kf.In hp) (hx : hp.get? x = some { cls := .ref C, data := .fields fv }) (hcd : clsIn Kf C = some cd) (hm : cd.mro = .ref C :: leT) (hh : cd.hasDict = true) (ha : findIn Kf (.ref C) name = some none)
    (k : ∀ h' tk' dx, (∀ b o, b ≠ x → hp.get? b = some o → h'.get? b = some o) → hp.objs.size ≤ dx → dx ≠ x → h'.get? x = some { cls := .ref C, dict := some dx, data := .fields fv } → h'.Ns1 dx (fun y => if y = name then some v else none) → R (.ok (.ret .none)) ⟨h', g, d, tk', os⟩) :
    codeAny (model prog w) A (.call (.builtin "object.__setattr__") ⟨[.ref x, .str name tk, v], []⟩) R ⟨hp, g, d, t, os⟩ := by
  have hxs : x ≠ hp.objs.size := Nat.ne_of_lt (Heap.lt_size hx)
  have lc : Looks (model prog w) hp (classData C) cd := looks_clsIn Z hcd
  refine le_set Z (od := none) ⟨hx, rfl, rfl, trivial⟩ hcd hm ha ?_
  obtain ⟨a1, a2, a3, a4, a5, a6, a7, a8, a9, b1, b2⟩ := cd
  dsimp only at hh
  subst hh
  unfold storeInOwnDict ownDictForStores
  repeat (first | with_reducible refine store_in_new ?_ ?_ | with_reducible refine wpAny_loadPart_at hx ?_ | with_reducible refine lc.at ?_ | wp_step)
  · exact ⟨_, #[], _, (Heap.get?_update_ne _ _ _ _ hxs.symm).trans (Heap.get?_push_at rfl rfl), rfl, fun e he => absurd he (by simp), fun _ => rfl⟩
  · intro h' tk' hn' hs
    have hy : (hp.push { cls := .type "dict", data := .dict #[] }).get? x = some { cls := .ref C, data := .fields fv } := Heap.get?_push_of_some _ hx
    refine k h' tk' hp.objs.size (fun b o hb ho => ?_) (Nat.le_refl _) hxs.symm ?_ hn'
    · exact (hs.2 b (Nat.ne_of_lt (Heap.lt_size ho))).trans ((Heap.get?_update_ne _ _ _ _ hb).trans (Heap.get?_push_of_some _ ho))
    · exact (hs.2 x hxs).trans (Heap.get?_update_self _ hy rfl)
theorem le_osa2 {prog : Program} {w : World} {A : Around} {R : Result → Shared → Prop} {hp : Heap} {g : Array GenState} {d : Drawn} {t : Nat} {os : OsState} {Kf : Frag} {name : Str} {tk : Tok} {v : Value} {x C dx : Addr} {fv : Array Value} {cd : ClassData} {m0 : Str → Option Value} {nl : List Str}
    (Z : Kf.In hp) (hx : hp.get? x = some { cls := .ref C, dict := some dx, data := .fields fv }) (hns : hp.Ns1 dx m0) (hw : Within m0 nl) (hz : nl.length ≤ 1000) (hcd : clsIn Kf C = some cd) (hm : cd.mro = .ref C :: leT) (hh : cd.hasDict = true) (ha : findIn Kf (.ref C) name = some none)
    (k : ∀ h' tk', (∀ b o, b ≠ dx → hp.get? b = some o → h'.get? b = some o) → h'.Ns1 dx (fun y => if y = name then some v else m0 y) → R (.ok (.ret .none)) ⟨h', g, d, tk', os⟩) :
    codeAny (model prog w) A (.call (.builtin "object.__setattr__") ⟨[.ref x, .str name tk, v], []⟩) R ⟨hp, g, d, t, os⟩ := by
  obtain ⟨o2, e2, p2, c1, c2, _⟩ := hns.count hw
  have lc : Looks (model prog w) hp (classData C) cd := looks_clsIn Z hcd
  refine le_set Z (od := some o2) ⟨hx, rfl, rfl, c1⟩ hcd hm ha ?_
  obtain ⟨a1, a2, a3, a4, a5, a6, a7, a8, a9, b1, b2⟩ := cd
  dsimp only at hh
  subst hh
  unfold storeInOwnDict ownDictForStores
  repeat (first | with_reducible refine le_put hns hw hz ?_ | with_reducible refine wpAny_loadPart_at hx ?_ | with_reducible refine lc.at ?_ | wp_step)
  intro h' tk' hn' hs
  exact k h' tk' (fun b o hb ho => (hs.2 b hb).trans ho) hn'
/-- what the written part says of the class -/
structure OleC (Kf : Frag) (C : Addr) : Prop where
  cls : ∃ nm q N bs sn sub ab col dd k0 k1 k2 k3 k5, Kf.lookup C = some (excClassObj nm q C N bs leT true sn sub ab col dd k0 k1 k2 k3 k5 "LookupError.__new__")
  sa : findIn Kf (.ref C) "__setattr__" = some (some (.builtin "object.__setattr__"))
  exC : subIn Kf (.ref C) (.type "BaseException") = some true
  tyC : typeIn Kf (.ref C) = some (.type "type")
  kC : keepIn Kf (.ref C) = true
section
variable {X : Cx} {pins : List (Addr × Obj)} {σ : L2.St} {H : Hp} {s : Shared} {a C dx : Addr} {f : Str} {y : V} {u : Value} {fs : List (Str × V)} {Q : Unit → Shared → Prop} {E : Value → Shared → Prop} {A : Around}
theorem le_new (T : OleC X.K C) (I : L2.Inv X pins σ H s) (e : H a = some (exo a C none)) (hno : findIn X.K (.ref C) f = some none) (ry : RelV y u)
    (k : ∀ dx s', H dx = none → dx ≠ a → L2.Inv X pins σ (upd (upd H dx (exd dx [(f, y)])) a (exo a C (some dx))) s' → Q () s') : wpAny (model X.prog X.w) A (setAttr (.ref a) f u) Q E s := by
  obtain ⟨nm, q, N, bs, sn, sub, ab, col, dd, k0, k1, k2, k3, k5, hC⟩ := T.cls
  have hcl : clsIn X.K C = some { name := nm, bases := bs, mro := .ref C :: leT, ns := N, qualname := q, hasDict := true, slotNames := sn, subclasses := sub, abstract := ab, collection := col, hasDel := false } := by unfold clsIn; rw [hC] <;> rfl
  obtain ⟨t1, ho⟩ := exo_at I.hok e
  obtain ⟨hp, g, d, t, os⟩ := s
  refine set_plain I.kIn (ox := { cls := .ref C, dict := none, data := .fields #[.ref t1, .none, .none, .none, .bool false, .none] }) (od := none) ⟨ho, rfl, rfl, trivial⟩ T.sa ?_
  refine le_osa1 I.kIn ho hcl rfl rfl hno (fun h' tk' dx kk dn dne hx hn => ?_)
  have hnd : H dx = none := I.hok.fresh dn
  have nd : ∀ {b : Addr} {o : Obj}, hp.get? b = some o → b ≠ dx := fun {b o} q => Nat.ne_of_lt (Nat.lt_of_lt_of_le (Heap.lt_size q) dn)
  have na : ∀ {b : Addr}, H b = none → b ≠ a := fun {b} n z => by rw [z, e] at n; cases n
  have U : L2.Un X.fs [] H (upd (upd H dx (exd dx [(f, y)])) a (exo a C (some dx))) hp h' := {
    keep := fun b o q n _ _ => kk b o (na n) q
    slot := fun b o q n _ _ => ⟨o.slots, kk b o (na n) q⟩
    free := fun b o q n _ => by rw [upd_ne (na n), upd_ne (nd q)]; exact n
    there := fun b o q _ => (Decidable.em (b = a)).elim (fun hb => ⟨_, (congrArg h'.get? hb).trans hx⟩) fun hb => ⟨o, kk b o hb q⟩
    tups := fun b xs q => by rw [upd_ne (at_ne e q exo_tup), upd_ne (ne_of_none q hnd)]; exact q
    frzs := fun b o v q => by rw [upd_ne (at_ne e q exo_frz), upd_ne (ne_of_none q hnd)]; exact q
    tbls := fun b ps q => ⟨#[], by rw [upd_ne (at_ne e q exo_tbl), upd_ne (ne_of_none q hnd), q]; simp⟩ }
  refine k dx _ hnd dne (I.un (t' := tk') U fun b o q => ?_)
  by_cases hb : b = a
  · subst hb
    rw [upd_same] at q
    cases q
    exact exo_ok hx
  rw [upd_ne hb] at q
  by_cases hd : b = dx
  · subst hd
    rw [upd_same] at q
    cases q
    exact exd_ok hn (relO_put (fs := []) ry fun g => True.intro)
  rw [upd_ne hd] at q
  refine (I.hok b o q).stay (fun c v hc z => kk c v ?_ z) (fun c hc => ?_) (fun c xs hc => ?_)
  · rcases hc with hc | hc
    · rw [hc]; exact hb
    · exact at_ne e hc exo_own
  · rw [upd_ne (at_ne e hc exo_own), upd_ne (ne_of_none hc hnd)]; exact hc
  · rw [upd_ne (at_ne e hc exo_tup), upd_ne (ne_of_none hc hnd)]; exact hc
theorem le_old (T : OleC X.K C) (I : L2.Inv X pins σ H s) (e : H a = some (exo a C (some dx))) (ed : H dx = some (exd dx fs)) (hl : fs.length ≤ 900) (hno : findIn X.K (.ref C) f = some none) (ry : RelV y u)
    (k : ∀ s', L2.Inv X pins σ (upd H dx (exd dx ((f, y) :: fs))) s' → Q () s') : wpAny (model X.prog X.w) A (setAttr (.ref a) f u) Q E s := by
  obtain ⟨nm, q, N, bs, sn, sub, ab, col, dd, k0, k1, k2, k3, k5, hC⟩ := T.cls
  have hcl : clsIn X.K C = some { name := nm, bases := bs, mro := .ref C :: leT, ns := N, qualname := q, hasDict := true, slotNames := sn, subclasses := sub, abstract := ab, collection := col, hasDel := false } := by unfold clsIn; rw [hC] <;> rfl
  obtain ⟨t1, ho⟩ := exo_at I.hok e
  obtain ⟨mA, hns, rel⟩ := exd_at I.hok ed
  have hw := within_of rel
  obtain ⟨hp, g, d, t, os⟩ := s
  obtain ⟨oD, _, _, hoD, _, _⟩ := hns.count hw
  refine set_plain I.kIn (ox := { cls := .ref C, dict := some dx, data := .fields #[.ref t1, .none, .none, .none, .bool false, .none] }) (od := some oD) ⟨ho, rfl, rfl, hoD⟩ T.sa ?_
  refine le_osa2 I.kIn ho hns hw (by rw [List.length_map]; omega) hcl rfl rfl hno (fun h' tk' kk hn => ?_)
  obtain ⟨o3, _, _, e3, _⟩ := id hn
  exact k _ (I.write (t' := tk') (x := dx) (e := dx) (o := exd dx ((f, y) :: fs)) (by rw [ed]; exact True.intro) (.inl rfl) kk ⟨o3, e3⟩ (exd_ok hn (relO_put ry rel)))
theorem le_init {us : List Value} {Q : Value → Shared → Prop} (T : OleC X.K C) (I : L2.Inv X pins σ H s) (e : H a = some (exo a C none)) (hl : us.length ≤ sizeLine) (k : ∀ s', L2.Inv X pins σ H s' → Q .none s') :
    wpAny (model X.prog X.w) A (call (.builtin "LookupError.__init__") (.ref a :: us)) Q E s := by
  obtain ⟨nm, q, N, bs, sn, sub, ab, col, dd, k0, k1, k2, k3, k5, hC⟩ := T.cls
  obtain ⟨t1, ho⟩ := exo_at I.hok e
  obtain ⟨hp, g, d, t, os⟩ := s
  refine wpAny_call (init_base PySem.F.excBase_LookupError (fun Y => rfl) (I.kIn _ _ hC) ho hl fun h' t2 kk hx => ?_)
  have J := I.write (t' := t) (x := a) (e := a) (o := exo a C none) (by rw [e]; exact True.intro) (.inl rfl) kk ⟨_, hx⟩ (exo_ok hx)
  have eu : upd H a (exo a C none) = H := funext fun b => if hb : b = a then by rw [hb, upd_same, e] else upd_ne hb
  rw [eu] at J
  exact k _ J
end
theorem typ_LE : typeOf (.type "LookupError") = pure (.type "type") := by kernel_rfl
/-- LookupError.__init__(self, ..) -/
def tLeI (Kf : Frag) (ta : TA) : TE := fun σ H Q => ta σ H fun vs H1 => ∃ (a C : Addr) (ws : List V), vs = .ref a :: ws ∧ ws.length ≤ 1000 ∧ OleC Kf C ∧ H1 a = some (exo a C none) ∧ Q .non H1
/-- self.f = e -/
def tLst (Kf : Frag) (f : Str) (to te : TE) : TS := fun D σ H => te σ H fun y H1 => to σ H1 fun x H2 => ∃ a C : Addr, x = .ref a ∧ OleC Kf C ∧ findIn Kf (.ref C) f = some none ∧
  ((H2 a = some (exo a C none) ∧ ∀ dx, H2 dx = none → dx ≠ a → D.nx σ (upd (upd H2 dx (exd dx [(f, y)])) a (exo a C (some dx)))) ∨
    ∃ (dx : Addr) (fs : List (Str × V)), H2 a = some (exo a C (some dx)) ∧ H2 dx = some (exd dx fs) ∧ fs.length ≤ 900 ∧ D.nx σ (upd H2 dx (exd dx ((f, y) :: fs))))
section
variable {X : Cx} {o e : Expr} {es : List Expr} {to te : TE} {ta : TA} {f : Str} {p p' p1 p2 pos : Pos}
theorem pe_leinit {pl : Sem Bool} (hg : Gl X "LookupError") (hm : X.mg "LookupError" = none) (vV : findCls X.K (.type "LookupError") (.type "type") "__init__" = some (.val (.builtin "LookupError.__init__"))) (ha : PA X (e :: es) ta)
    (hc : eval (.Call (.Attribute (.Name "LookupError" p1) "__init__" p2) (e :: es) [] pos) X.env = (do
      let ov ← eval (.Name "LookupError" p1) X.env
      standAt p2.atName
      let (f, first) ← holding [ov] (getMethod ov "__init__" pl)
      callWith pos f first (backTo pos (starEach (e :: es) X.env)) (backToKw pos (keywordEach [] X.env))) := by rfl)
    (he : starEach (e :: es) X.env = (false, eval e X.env) :: starEach es X.env := by rfl) (hpl : (backTo pos (starEach es X.env)).any (·.1) = false := by rfl) :
    PE X (.Call (.Attribute (.Name "LookupError" p1) "__init__" p2) (e :: es) [] pos) (tLeI X.K ta) := by
  refine ⟨fun pins s σ H Q I h => ?_⟩
  refine methodCall_KW (ld_blt I hg hm PyProof.Rows.Boot.«LookupError» ?_ (by decide) (by decide)) hc
  obtain ⟨m, fr⟩ := I.fr
  refine method_type fr I.ok.mod.kin typ_LE (by decide +kernel) vV (by decide +kernel) ?_
  show wpAny _ _ (callWith pos (Value.builtin "LookupError.__init__") [] (backTo pos (starEach (e :: es) X.env)) []) _ _ _
  refine PyProof.Rows.callWith_method1 (thn (ha.run pos pins _ σ H _ (I.tok _) h) fun us s1 ⟨vs, H1, I1, r1, a, C, ws, ev, hl, T, ea, q⟩ => ?_) he hpl
  subst ev
  cases r1 with
  | @cons _ u0 _ ur ra rw' =>
    obtain rfl : u0 = Value.ref a := ra
    exact le_init T I1 ea (by rw [← Paired.length rw', sizeLine_eq]; omega) fun s' J => ⟨.non, H1, J, rfl, q⟩
theorem ps_lst (ho : PE X o to) (he : PE X e te) (hs : swapsWith e (some (.Attribute o f p')) pos.line X.env = pure false := by rfl) : PS X (.Assign [.Attribute o f p'] e pos) (tLst X.K f to te) := by
  refine ⟨fun pins s σ H D I h => plainObj_wpAny_Assign_Attribute (thn (he.run pins s σ H _ I h) fun v s1 ⟨y, H1, I1, r1, q1⟩ => thn (ho.run pins s1 σ H1 _ I1 q1) fun u s2 ⟨x, H2, I2, r2, a, C, ex, T, hno, q⟩ => ?_) hs⟩
  subst ex
  obtain rfl : u = Value.ref a := r2
  rcases q with ⟨ea, q⟩ | ⟨dx, fs, ea, ed, hl, q⟩
  · exact le_new T I2 ea hno r1 fun dx s' n ne J => ⟨σ, _, J, q dx n ne⟩
  · exact le_old T I2 ea ed hl hno r1 fun s' J => ⟨σ, _, J, q⟩
/-- C(e, ..), the error's context told -/
theorem pmkLE {CX : CXT} {x : Str} {C fI : Addr} {k : Nat} {fd : FuncData} {ps : List Str} {sp : Sp} {ds : List Value} {dvs : List V} (T : OleC X.K C) (iC : findIn X.K (.ref C) "__init__" = some (some (.ref fI))) (tI : typeIn X.K (.ref fI) = some (.type "function"))
    (F1 : FnOk X.prog X.w X.K X.mg X.base CX k fI fd ps sp) (hr : Room (k + 1) X.A) (hb : Binds X.K fd ps ds) (hd : Vals dvs ds) (hx : Passes CX X (fun _ _ _ => False)) (hg : Gl X x) (hm : X.mg x = some (.ref C)) (ha : PA X (e :: es) ta)
    (hdb : (x == ("__debug__" : Str)) = false := by decide) (he : starEach (e :: es) X.env = (false, eval e X.env) :: starEach es X.env := by rfl) (hpl : (backTo pos (starEach es X.env)).any (·.1) = false := by rfl) :
    L2N.PMk X (.Call (.Name x p) (e :: es) [] pos) (tMkO C sp dvs ta) := by
  intro pins s0 σ H Q I h
  have ⟨_, _, _, _, _, _, _, _, _, _, _, _, _, _, hC⟩ := T.cls
  refine wpAny_Call_Name_kw (ld_glob I hg hm ?_ hdb)
  refine callWith_K (h₀ := X.base) I.ok.mod.kin T.kC (thn (ha.run pos pins s0 σ H _ I h) fun us s1 ⟨vs, H1, J1, rv, hz, q1⟩ => ⟨J1.kIn, ?_⟩) he hpl
  show wpAny _ _ (call (.ref C) us) _ _ _
  obtain ⟨hp, gs, dr, tk, os⟩ := s1
  let e1 : Addr := hp.objs.size + 1
  let hh : Heap := (hp.push (kdv_tup us)).push (excO C hp.objs.size)
  have le : hp.objs.size ≤ e1 := Nat.le_succ _
  have hq := q1 e1 (J1.hok.fresh le)
  have keep : ∀ b o, hp.get? b = some o → hh.get? b = some o := fun b o z => Heap.get?_push_of_some _ (Heap.get?_push_of_some _ z)
  have got : hh.get? e1 = some (excO C hp.objs.size) := by
    show ((hp.push (kdv_tup us)).push (excO C hp.objs.size)).get? (hp.objs.size + 1) = _
    heap_get
  have J2 : L2.Inv X pins σ (upd H1 e1 (exo e1 C none)) ⟨hh, gs, dr, tk, os⟩ := J1.laid (t' := tk) keep le (exo_ok got)
  have r2 : Vals (V.ref e1 :: (vs ++ dvs)) (Value.ref e1 :: (us ++ ds)) := .cons rfl (rv.append hd)
  have hl : (Value.ref e1 :: us ++ ds).length = ps.length := by
    have z := r2.length
    rw [F1.len _ _ _ _ hq] at z
    exact z.symm
  have hus : us.length ≤ sizeLine := by
    have := Paired.length rv
    rw [sizeLine_eq]; omega
  refine wpAny_call (call_own PySem.F.excBase_LookupError (fun Y => rfl) (J1.kIn _ _ hC) (looks_findIn J1.kIn iC) (fun self => bind_fn J1.kIn self tI) hus ?_)
  refine codeAny_mono (F1.run _ X.stack _ _ ⟨Value.ref e1 :: us, []⟩ (Value.ref e1 :: (us ++ ds)) _ _ (fun _ _ _ => False) (hr.make C us []) (J2.env0.make C us []) (hb _ (Value.ref e1 :: us) J2.kIn hl) r2 hq) fun r s2 hq' => ?_
  match r, hq' with
  | .error er, hq' => exact hx pins σ _ _ er s2 J2 hq'
  | .ok (.ret u), hq' =>
    obtain ⟨v, H2, os2, b2, un2, hok2, rv2, ev, d, fs, ea, ed, hd1, q2⟩ := hq'
    subst ev
    obtain ⟨h2, g2, d2, t2, os'⟩ := s2
    refine ⟨rv2, ?_⟩
    obtain ⟨t0, G, J, kG, ge, hoe, na⟩ := mk_end0 (d2 := d2) (t2 := t2) J1 le keep un2 hok2 os2 b2 ea ed hd1
    exact ⟨e1, _, _, ⟨G, g2, d2, t2, os'⟩, _, .ref C, some d, rfl, J, kG, ge, hoe, ⟨rfl, rfl, fun vs z => by cases z; rfl⟩, rfl, rfl, na, rfl, b2, raises_own T.exC T.tyC, q2⟩
  | .ok .next, hq' => exact False.elim hq'
  | .ok .brk, hq' => exact False.elim hq'
  | .ok .cont, hq' => exact False.elim hq'
end
section
variable {X : Cx} {CX : CXT} {k : Nat} {f C : Addr} {fd : FuncData} {ps ks : List Str} {sp : Sp} {Ef : L2.St → XK} {x : Str} {p pos : Pos} {e : Expr} {es : List Expr} {kws : List Keyword} {t tk : TA} {ds : List Value} {dvs : List V} {g : List Value → List Value → List Value} {gV : List V → List V → List V}
/-- C(e, ..) in a try's body -/
def tMakeS (C : Addr) (sp : Sp) (dvs : List V) (Ef : L2.St → XK) (t : TA) : TE := fun σ H Q => t σ H fun vs H1 => ∀ x dx, H1 x = none → H1 dx = none → dx ≠ x → sp (.ref x :: (vs ++ dvs)) (upd (upd H1 dx (.own x)) x (.ins C dx [])) (fun v H2 => v = .non ∧ Q (.ref x) H2) (Ef σ)
theorem pe_makeS (M : Mk X.K C f) (F : FnOk X.prog X.w X.K X.mg X.base CX k f fd ps sp) (hr : Room (k + 1) X.A) (hg : Gl X x) (hm : X.mg x = some (.ref C)) (hb : Binds X.K fd ps ds) (hd : Vals dvs ds) (hx : ∀ σ, PassesAt CX X σ (Ef σ))
    (ha : PA X (e :: es) t) (hdb : (x == ("__debug__" : Str)) = false := by decide) (he : starEach (e :: es) X.env = (false, eval e X.env) :: starEach es X.env := by rfl) (hpl : (backTo pos (starEach es X.env)).any (·.1) = false := by rfl) :
    PE X (.Call (.Name x p) (e :: es) [] pos) (tMakeS C sp dvs Ef t) := by
  refine ⟨fun pins s0 σ H Q I h => ?_⟩
  refine wpAny_Call_Name_kw (ld_glob I hg hm ?_ hdb)
  refine callWith_K (h₀ := X.base) I.ok.mod.kin M.kp (thn (ha.run pos pins s0 σ H _ I h) fun us s ⟨vs, H1, I1, r, q⟩ => ⟨I1.kIn, ?_⟩) he hpl
  have hq := q (s.heap.objs.size + 1) s.heap.objs.size (I1.hok.fresh (Nat.le_succ _)) (I1.hok.fresh (Nat.le_refl _)) (Nat.ne_of_lt (Nat.lt_succ_self _))
  have J := Inv.made (C := C) I1
  have r2 : Vals (V.ref (s.heap.objs.size + 1) :: (vs ++ dvs)) (Value.ref (s.heap.objs.size + 1) :: (us ++ ds)) := .cons rfl (r.append hd)
  have hl : (Value.ref (s.heap.objs.size + 1) :: us ++ ds).length = ps.length := by
    have z := r2.length
    rw [F.len _ _ _ _ hq] at z
    exact z.symm
  refine wpAny_call (make_map (f := f) I1.kIn M.makes M.init (beq_iff_eq.mp M.fn) (codeAny_mono (F.run _ X.stack _ _ ⟨Value.ref (s.heap.objs.size + 1) :: us, []⟩ (Value.ref (s.heap.objs.size + 1) :: (us ++ ds)) _ _ (Ef σ) (hr.make C us [])
    (J.env0.make C us []) (hb _ (Value.ref (s.heap.objs.size + 1) :: us) J.kIn hl) r2 hq) fun r s' hq' => ?_))
  match r, hq' with
  | .error er, hq' => exact hx σ pins _ _ er s' J hq'
  | .ok (.ret u), hq' =>
    obtain ⟨v, H', I3, rv, ev, q3⟩ := J.after hq'
    subst ev
    exact ⟨rv, ⟨V.ref (s.heap.objs.size + 1), H', I3, rfl, q3⟩⟩
  | .ok .next, hq' => exact False.elim hq'
  | .ok .brk, hq' => exact False.elim hq'
  | .ok .cont, hq' => exact False.elim hq'
/-- f(e, .., k = v) in a try's body -/
def tCallKS (sp : Sp) (gV : List V → List V → List V) (Ef : L2.St → XK) (t tk : TA) : TE := fun σ H Q => t σ H fun vs H1 => tk σ H1 fun zs H2 => sp (gV vs zs) H2 Q (Ef σ)
theorem pe_callKS (F : FnOk X.prog X.w X.K X.mg X.base CX k f fd ps sp) (hr : Room k X.A) (hg : Gl X x) (hm : X.mg x = some (.ref f)) (hk : keepIn X.K (.ref f) = true) (hb : KBinds X.K fd ps ks g gV) (hx : ∀ σ, PassesAt CX X σ (Ef σ))
    (ha : PA X (e :: es) t) (hkw : PK X kws tk) (hall : (backToKw pos (keywordEach kws X.env)).all (·.1.isSome) = true := by rfl) (hks : (backToKw pos (keywordEach kws X.env)).filterMap (·.1) = ks := by rfl)
    (hdb : (x == ("__debug__" : Str)) = false := by decide) (he : starEach (e :: es) X.env = (false, eval e X.env) :: starEach es X.env := by rfl)
    (hpl : ((backTo pos (starEach (e :: es) X.env)).any (·.1) || (backToKw pos (keywordEach kws X.env)).any (·.1.isNone)) = false := by rfl) :
    PE X (.Call (.Name x p) (e :: es) kws pos) (tCallKS sp gV Ef t tk) := by
  refine ⟨fun pins s σ H Q I h => ?_⟩
  refine wpAny_Call_Name_kw (ld_glob I hg hm ?_ hdb)
  refine callWith_KW (h₀ := X.base) I.ok.mod.kin hk hall (thn (ha.run pos pins s σ H _ I h) fun us s1 ⟨vs, H1, I1, r, q⟩ => ?_) hpl he
  refine thn (hkw.run pos pins s1 σ H1 _ I1 q) fun ws s2 ⟨zs, H2, I2, rz, q2⟩ => ⟨I2.kIn, ?_⟩
  rw [hks]
  have rv := hb.rel r rz
  have hl : (g us ws).length = ps.length := by rw [← rv.length]; exact F.len _ _ _ _ q2
  refine wpAny_call (codeAny_mono (F.run X.A X.stack s2 H2 ⟨us, ks.zip ws⟩ (g us ws) (gV vs zs) Q (Ef σ) hr I2.env0 (hb.to s2 us ws I2.kIn hl) rv q2) fun r s' hq => ?_)
  match r, hq with
  | .error er, hq => exact hx σ pins _ _ er s' I2 hq
  | .ok (.ret u), hq => exact I2.after hq
  | .ok .next, hq => exact False.elim hq
  | .ok .brk, hq => exact False.elim hq
  | .ok .cont, hq => exact False.elim hq
end
end Y

set_option linter.all false
/-! # Formulas in plain Lean: words, trees, reading, writing -/
namespace Pl
abbrev W := List Nat
inductive Op | add | sub | mul | div deriving DecidableEq
def Op.c : Op → Nat | .add => 43 | .sub => 45 | .mul => 42 | .div => 47
/-- plus and minus -/
def Op.low : Op → Bool | .add => true | .sub => true | _ => false
inductive Stp | num (s : W) | name (s : W) | call (s : W) | neg | pow (d : Nat) | op (o : Op) deriving DecidableEq
inductive Tr | num (s : W) | name (s : W) | call (s : W) (t : Tr) | neg (t : Tr) | pow (t : Tr) (d : Nat) | op (o : Op) (l r : Tr)
def Stp.w : Stp → W | .num s => s | .name s => s | .call s => s | .neg => [126] | .pow d => [94, 48 + d] | .op o => [o.c]
def pst : Tr → List Stp
  | .num s => [.num s]
  | .name s => [.name s]
  | .call s t => pst t ++ [.call s]
  | .neg t => pst t ++ [.neg]
  | .pow t d => pst t ++ [.pow d]
  | .op o l r => pst l ++ pst r ++ [.op o]
/-! ### signs -/
def dig (c : Nat) : Bool := decide (48 ≤ c) && decide (c ≤ 57)
def let_ (c : Nat) : Bool := decide (97 ≤ c) && decide (c ≤ 122)
def nsg (c : Nat) : Bool := let_ c || dig c
def sgn (c : Nat) : Bool := decide (c ∈ [43, 45, 42, 47, 94, 40, 41])
def calls : List W := [[101, 120, 112], [108, 111, 103], [115, 105, 110], [99, 111, 115], [116, 97, 110], [97, 116, 97, 110]]
def keptW : List W := [[115, 104, 101, 101, 116], [105, 110, 112, 117, 116], [103, 105, 118, 101, 110], [108, 101, 116], [97, 110, 115, 119, 101, 114], [100, 111, 110, 101], [112, 114, 111, 103, 114, 97, 109], [109, 105, 120], [114, 111, 117, 110, 100], [111, 117, 116],
  [101, 120, 112], [108, 111, 103], [115, 105, 110], [99, 111, 115], [116, 97, 110], [97, 116, 97, 110], [97, 116], [97, 115], [119, 105, 116, 104], [98, 101, 115, 105, 100, 101]]
def isCall (w : W) : Bool := decide (w ∈ calls)
def figs : W → Bool
  | [] => false
  | [48] => true
  | c :: r => c != 48 && (c :: r).all dig
def isName : W → Bool
  | [] => false
  | c :: r => decide ((c :: r).length ≤ 8) && let_ c && (c :: r).all nsg && !decide ((c :: r) ∈ keptW)
/-- the words of a text -/
def toks : W → Option (List W)
  | [] => some []
  | c :: r => (toks r).bind fun ts =>
    if nsg c then (match r, ts with
      | d :: _, t :: ts' => if nsg d then some ((c :: t) :: ts') else some ([c] :: ts)
      | _, _ => some ([c] :: ts))
    else if sgn c then some ([c] :: ts) else if c = 32 then some ts else none
/-! ### the law's reader -/
abbrev Pa := List W → Option (Tr × List W)
def chain (hit : W → Option Op) (f : Pa) : Nat → Tr → Pa
  | 0, t, ts => some (t, ts)
  | k + 1, t, ts => match ts with
    | [] => some (t, [])
    | w :: r => match hit w with
      | none => some (t, w :: r)
      | some o => match f r with
        | none => none
        | some (u, r') => chain hit f k (.op o t u) r'
def lowOp (w : W) : Option Op := if w = [43] then some .add else if w = [45] then some .sub else none
def highOp (w : W) : Option Op := if w = [42] then some .mul else if w = [47] then some .div else none
def pAtom (s : Pa) : Pa
  | [] => none
  | w :: r =>
    if w = [40] then (match s r with
      | some (t, [41] :: r') => some (t, r')
      | _ => none)
    else if isCall w = true ∧ r.head? = some [40] then (match s r.tail with
      | some (t, [41] :: r') => some (.call w t, r')
      | _ => none)
    else if figs w then some (.num w, r) else if isName w then some (.name w, r) else none
def pPow (s : Pa) : Pa := fun ts => match pAtom s ts with
  | none => none
  | some (t, w :: r) => if w = [94] then (match r with
      | [d] :: r' => if dig d then some (.pow t (d - 48), r') else none
      | _ => none) else some (t, w :: r)
  | some (t, []) => some (t, [])
def pProd (s : Pa) : Pa := fun ts => match pPow s ts with
  | none => none
  | some (t, r) => chain highOp (pPow s) r.length t r
def pSum (s : Pa) : Pa := fun ts =>
  let m : Bool := decide (ts.head? = some [45])
  match pProd s (if m then ts.tail else ts) with
  | none => none
  | some (t, r) => chain lowOp (pProd s) r.length (if m then .neg t else t) r
def sumN : Nat → Pa
  | 0 => fun _ => none
  | n + 1 => pSum (sumN n)
/-! ### the program's reader -/
inductive Sg | opn | call (s : W) | neg | op (o : Op) deriving DecidableEq
def Sg.rank : Sg → Nat | .opn => 0 | .call _ => 0 | .neg => 1 | .op o => if o.low then 1 else 2
def settle (r : Nat) : List Tr → List Sg → List Tr × List Sg
  | T, [] => (T, [])
  | T, s :: S => if r ≤ s.rank then (match s, T with
      | .neg, t :: T => settle r (.neg t :: T) S
      | .op o, b :: a :: T => settle r (.op o a b :: T) S
      | _, T => (T, s :: S)) else (T, s :: S)
def opOf (w : W) : Option Op := if w = [43] then some .add else if w = [45] then some .sub else if w = [42] then some .mul else if w = [47] then some .div else none
/-- trees, signs, whether an operand, whether a power stands behind; what is left -/
def run (fst : Bool) (T : List Tr) (S : List Sg) (o p : Bool) : List W → Option Tr
  | [] => if o then (match settle 1 T S with
      | (t :: _, []) => some t
      | _ => none) else none
  | w :: r =>
    if w = [40] then (if o then none else run true T (.opn :: S) o p r)
    else if w = [41] then (if o then (match settle 1 T S with
        | (T', .opn :: S') => run false T' S' o false r
        | (t :: T', .call s :: S') => run false (.call s t :: T') S' o false r
        | _ => none) else none)
    else if w = [94] then (match r, T with
        | [d] :: r', t :: T' => if o && !p && dig d then run false (.pow t (d - 48) :: T') S o true r' else none
        | _, _ => none)
    else match opOf w with
      | some q => if o then (match settle (Sg.op q).rank T S with
          | (T', S') => run false T' (.op q :: S') false p r) else if w = [45] ∧ fst then run false T (.neg :: S) o p r else none
      | none => if isCall w then (match r with
          | [40] :: r' => if o then none else run true T (.call w :: S) o p r'
          | _ => none)
        else if o then none else if figs w then run false (.num w :: T) S true false r else if isName w then run false (.name w :: T) S true false r else none
def read (x : W) : Option Tr := (toks x).bind fun ts => run true [] [] false false ts
/-! ### writing -/
def brk (p : W × Nat) (least : Nat) : W := if p.2 < least then [40] ++ p.1 ++ [41] else p.1
def Op.rank : Op → Nat | .add => 0 | .sub => 0 | _ => 1
def Op.mark : Op → W | .add => [32, 43, 32] | .sub => [32, 45, 32] | .mul => [42] | .div => [47]
/-- text and rank: 3 atom, 2 power, 1 product, 0 sum -/
def wr : Tr → W × Nat
  | .num s => (s, 3)
  | .name s => (s, 3)
  | .call s t => (s ++ [40] ++ (wr t).1 ++ [41], 3)
  | .neg t => ([45] ++ brk (wr t) 1, 0)
  | .pow t d => (brk (wr t) 3 ++ [94] ++ [48 + d], 2)
  | .op o l r => (brk (wr l) o.rank ++ o.mark ++ brk (wr r) (o.rank + 1), o.rank)
def txt (t : Tr) : W := (wr t).1
/-! ### measures -/
def depthGo : Int → Int → W → Int
  | _, m, [] => m
  | d, m, c :: r => if c = 40 then depthGo (d + 1) (if d + 1 > m then d + 1 else m) r else if c = 41 then depthGo (d - 1) m r else depthGo d m r
def depth (x : W) : Int := depthGo 0 0 x
def size : Tr → Nat
  | .num _ => 1
  | .name _ => 1
  | .call _ t => size t + 1
  | .neg t => size t + 1
  | .pow t _ => size t + 2
  | .op _ l r => size l + size r + 1
/-- the names of a list, once each, in their order -/
def onceGo : List W → List W → List W
  | acc, [] => acc
  | acc, w :: r => onceGo (if w ∈ acc then acc else acc ++ [w]) r
def nms : Tr → List W
  | .num _ => []
  | .name s => [s]
  | .call _ t => nms t
  | .neg t => nms t
  | .pow t _ => nms t
  | .op _ l r => nms l ++ nms r
def names (t : Tr) : List W := onceGo [] (nms t)
def callsOf : Tr → List (W × Tr)
  | .num _ => []
  | .name _ => []
  | .call s t => callsOf t ++ [(s, t)]
  | .neg t => callsOf t
  | .pow t _ => callsOf t
  | .op _ l r => callsOf l ++ callsOf r
def digs : Tr → Nat
  | .num s => s.length
  | .name _ => 0
  | .call _ t => digs t
  | .neg t => digs t
  | .pow t _ => digs t
  | .op _ l r => max (digs l) (digs r)
def deg (f : W → Int) : Tr → Int
  | .num _ => 0
  | .name s => f s
  | .call _ _ => 1
  | .neg t => deg f t
  | .pow t d => deg f t * d
  | .op o l r => if o.low then (if deg f l > deg f r then deg f l else deg f r) else deg f l + deg f r
def put (n : W) (u : Tr) : Tr → Tr
  | .num s => .num s
  | .name s => if s = n then u else .name s
  | .call s t => .call s (put n u t)
  | .neg t => .neg (put n u t)
  | .pow t d => .pow (put n u t) d
  | .op o l r => .op o (put n u l) (put n u r)
/-- what a reader can give -/
def ok : Tr → Prop
  | .num s => figs s = true
  | .name s => isName s = true
  | .call s t => isCall s = true ∧ ok t
  | .neg t => ok t
  | .pow t d => ok t ∧ d ≤ 9
  | .op _ l r => ok l ∧ ok r
def okS : Stp → Prop
  | .num s => figs s = true
  | .name s => isName s = true
  | .call s => isCall s = true
  | .pow d => d ≤ 9
  | _ => True
theorem okS_pst : ∀ {t : Tr}, ok t → ∀ s ∈ pst t, okS s
  | .num s, h, x, hx => by cases List.mem_singleton.mp hx; exact h
  | .name s, h, x, hx => by cases List.mem_singleton.mp hx; exact h
  | .call s t, h, x, hx => by
    rcases List.mem_append.mp hx with z | z
    · exact okS_pst h.2 x z
    · cases List.mem_singleton.mp z; exact h.1
  | .neg t, h, x, hx => by
    rcases List.mem_append.mp hx with z | z
    · exact okS_pst (t := t) h x z
    · cases List.mem_singleton.mp z; trivial
  | .pow t d, h, x, hx => by
    rcases List.mem_append.mp hx with z | z
    · exact okS_pst h.1 x z
    · cases List.mem_singleton.mp z; exact h.2
  | .op o l r, h, x, hx => by
    rcases List.mem_append.mp hx with z | z
    · rcases List.mem_append.mp z with z | z
      · exact okS_pst h.1 x z
      · exact okS_pst h.2 x z
    · cases List.mem_singleton.mp z; trivial
/-! ### a machine over the steps -/
def Stp.ar : Stp → Nat | .num _ => 0 | .name _ => 0 | .op _ => 2 | _ => 1
/-- every step finds what it takes -/
def fed : List Stp → Nat → Prop
  | [], _ => True
  | s :: r, h => s.ar ≤ h ∧ fed r (h - s.ar + 1)
theorem fed_pst : ∀ (t : Tr) (r : List Stp) (h : Nat), fed (pst t ++ r) h ↔ fed r (h + 1)
  | .num s, r, h => by simp [pst, fed, Stp.ar]
  | .name s, r, h => by simp [pst, fed, Stp.ar]
  | .call s t, r, h => by rw [pst, List.append_assoc, fed_pst t]; simp [fed, Stp.ar]
  | .neg t, r, h => by rw [pst, List.append_assoc, fed_pst t]; simp [fed, Stp.ar]
  | .pow t d, r, h => by rw [pst, List.append_assoc, fed_pst t]; simp [fed, Stp.ar]
  | .op o l t, r, h => by rw [pst, List.append_assoc, List.append_assoc, fed_pst l, fed_pst t]; simp [fed, Stp.ar]
/-- f does on a stack (its top ahead) what a does on trees -/
theorem fold_pst {X : Type} (f : List X → Stp → List X) (a : Tr → X)
    (h0 : ∀ s S, f S (.num s) = a (.num s) :: S) (h1 : ∀ s S, f S (.name s) = a (.name s) :: S) (h2 : ∀ s t S, f (a t :: S) (.call s) = a (.call s t) :: S) (h3 : ∀ t S, f (a t :: S) .neg = a (.neg t) :: S)
    (h4 : ∀ t d S, f (a t :: S) (.pow d) = a (.pow t d) :: S) (h5 : ∀ o l r S, f (a r :: a l :: S) (.op o) = a (.op o l r) :: S) : ∀ (t : Tr) (S : List X), (pst t).foldl f S = a t :: S
  | .num s, S => h0 s S
  | .name s, S => h1 s S
  | .call s t, S => by rw [pst, List.foldl_append, fold_pst f a h0 h1 h2 h3 h4 h5 t]; exact h2 s t S
  | .neg t, S => by rw [pst, List.foldl_append, fold_pst f a h0 h1 h2 h3 h4 h5 t]; exact h3 t S
  | .pow t d, S => by rw [pst, List.foldl_append, fold_pst f a h0 h1 h2 h3 h4 h5 t]; exact h4 t d S
  | .op o l r, S => by rw [pst, List.foldl_append, List.foldl_append, fold_pst f a h0 h1 h2 h3 h4 h5 l, fold_pst f a h0 h1 h2 h3 h4 h5 r]; exact h5 o l r S
end Pl

set_option linter.all false
/-! # Both readers read the same -/
namespace Pl
def dl (w : W) : Int := if w = [40] then 1 else if w = [41] then -1 else 0
def mx : List W → Int
  | [] => 0
  | w :: r => max 0 (dl w + mx r)
theorem mx_pos : ∀ ts, 0 ≤ mx ts
  | [] => Int.le_refl _
  | w :: r => Int.le_max_left _ _
def top : List Sg → Nat
  | [] => 0
  | s :: _ => s.rank
def good (p : Bool) (ts : List W) : Prop := ∀ r, ts = [94] :: r → p = true
theorem settle_id {r : Nat} (T : List Tr) (S : List Sg) (h : top S < r) : settle r T S = (T, S) := by
  cases S with
  | nil => rfl
  | cons s S =>
    have : ¬ r ≤ s.rank := by have : s.rank < r := h; omega
    unfold settle; rw [if_neg this]
theorem op_rank (q : Op) : 1 ≤ (Sg.op q).rank ∧ (Sg.op q).rank ≤ 2 := by cases q <;> decide
theorem op_of {w : W} {q : Op} (h : opOf w = some q) : w = [q.c] := by
  unfold opOf at h
  split at h
  · cases h; assumption
  split at h
  · cases h; assumption
  split at h
  · cases h; assumption
  split at h
  · cases h; assumption
  · cases h
theorem run_fst (f g : Bool) (T : List Tr) (S : List Sg) (p : Bool) (ts : List W) : run f T S true p ts = run g T S true p ts := by
  cases ts with
  | nil => unfold run; rfl
  | cons w r => unfold run; simp only [if_true]
/-- with an operand, only operators, brackets that close, and powers go on -/
theorem stuck {f p : Bool} {T : List Tr} {S : List Sg} {w : W} {r : List W} (h1 : opOf w = none) (h2 : w ≠ [41]) (h3 : good p (w :: r)) : run f T S true p (w :: r) = none := by
  unfold run
  simp only [if_true, h1, if_neg h2]
  split
  · rfl
  split
  · next e =>
    have hp : p = true := h3 r (by rw [e])
    subst hp
    split
    · simp
    · rfl
  · split
    · split <;> rfl
    · rfl
/-- a sign of its rank is settled by whatever comes -/
theorem fire {f p : Bool} {T T' : List Tr} {s : Sg} {S : List Sg} {ts : List W} (h : ∀ r, r ≤ s.rank → settle r T (s :: S) = settle r T' S) (h1 : 1 ≤ s.rank) (hg : good p ts) (hh : ∀ w r q, ts = w :: r → opOf w = some q → (Sg.op q).rank ≤ s.rank) :
    run f T (s :: S) true p ts = run f T' S true p ts := by
  cases ts with
  | nil => unfold run; simp only [if_true, h 1 h1]
  | cons w r =>
    unfold run
    simp only [if_true, h 1 h1]
    split
    · rfl
    split
    · rfl
    split
    · next e =>
      have hp : p = true := hg r (by rw [e])
      subst hp
      refine Eq.trans (b := none) ?_ (Eq.symm ?_) <;> (split <;> simp)
    · cases e : opOf w with
      | none => rfl
      | some q =>
        have := h _ (hh w r q rfl e)
        simp only [this]
theorem fire_op {f p : Bool} {T : List Tr} {a b : Tr} {q : Op} {S : List Sg} {ts : List W} (hg : good p ts) (hh : ∀ w r q', ts = w :: r → opOf w = some q' → (Sg.op q').rank ≤ (Sg.op q).rank) :
    run f (b :: a :: T) (.op q :: S) true p ts = run f (.op q a b :: T) S true p ts :=
  fire (fun r hr => by conv => lhs; unfold settle
                       rw [if_pos hr]) (op_rank q).1 hg hh
theorem fire_neg {f p : Bool} {T : List Tr} {a : Tr} {S : List Sg} {ts : List W} (hg : good p ts) (hh : ∀ w r q', ts = w :: r → opOf w = some q' → (Sg.op q').rank ≤ 1) :
    run f (a :: T) (.neg :: S) true p ts = run f (.neg a :: T) S true p ts :=
  fire (fun r hr => by conv => lhs; unfold settle
                       rw [if_pos hr]) (Nat.le_refl _) hg hh
def cond (f : Bool) (ts : List W) : Prop := f = true → ts.head? ≠ some [45]
structure Sp (pa : Pa) (n : Int) (lim : Nat) (hd : W → Bool) : Prop where
  no : ∀ ts, mx ts < n → pa ts = none → ∀ f T S p, cond f ts → top S < lim → run f T S false p ts = none
  yes : ∀ ts t r, mx ts < n → pa ts = some (t, r) → mx r ≤ mx ts ∧ r.length < ts.length ∧ (∀ w r', r = w :: r' → hd w = false) ∧ ∃ p', good p' r ∧ ∀ f T S p, cond f ts → top S < lim → run f T S false p ts = run false (t :: T) S true p' r
/-- sums: at a place where a minus may stand -/
structure Ss (pa : Pa) (n : Int) : Prop where
  no : ∀ ts, mx ts < n → pa ts = none → ∀ T S p, top S = 0 → run true T S false p ts = none
  yes : ∀ ts t r, mx ts < n → pa ts = some (t, r) → mx r ≤ mx ts ∧ r.length < ts.length ∧ (∀ w r', r = w :: r' → opOf w = none) ∧ ∃ p', good p' r ∧ ∀ T S p, top S = 0 → run true T S false p ts = run false (t :: T) S true p' r
theorem call_ne {w : W} (h : isCall w = true) : w ≠ [40] ∧ w ≠ [41] ∧ w ≠ [94] ∧ opOf w = none ∧ dl w = 0 := by
  have h' : w ∈ calls := of_decide_eq_true h
  unfold calls at h'
  simp only [List.mem_cons, List.mem_nil_iff, or_false] at h'
  rcases h' with rfl | rfl | rfl | rfl | rfl | rfl <;> decide
theorem figs_dig {w : W} (h : figs w = true) : w ≠ [] ∧ ∀ c ∈ w, dig c = true := by
  match w, h with
  | c :: r, h =>
    refine ⟨nofun, ?_⟩
    by_cases e : c = 48 ∧ r = []
    · obtain ⟨rfl, rfl⟩ := e
      intro c hc; cases List.mem_singleton.mp hc; decide
    · have : figs (c :: r) = (c != 48 && (c :: r).all dig) := by
        match c, r, e with
        | c, r, e => unfold figs; split <;> simp_all
      rw [this, Bool.and_eq_true] at h
      exact fun c hc => List.all_eq_true.mp h.2 c hc
theorem name_nsg {w : W} (h : isName w = true) : w ≠ [] ∧ ∀ c ∈ w, nsg c = true := by
  match w, h with
  | c :: r, h =>
    refine ⟨nofun, ?_⟩
    unfold isName at h
    rw [Bool.and_eq_true, Bool.and_eq_true] at h
    exact fun c hc => List.all_eq_true.mp h.1.2 c hc
theorem dig_nsg {c : Nat} (h : dig c = true) : nsg c = true := by unfold nsg; rw [h]; simp
theorem nsg_ne {c : Nat} (h : nsg c = true) : c ≠ 40 ∧ c ≠ 41 ∧ c ≠ 94 ∧ c ≠ 43 ∧ c ≠ 45 ∧ c ≠ 42 ∧ c ≠ 47 ∧ c ≠ 126 ∧ c ≠ 32 ∧ c ≠ 46 := by
  unfold nsg let_ dig at h
  simp only [Bool.or_eq_true, Bool.and_eq_true, decide_eq_true_eq] at h
  omega
theorem run_word {w : W} (h1 : w ≠ []) (h : ∀ c ∈ w, nsg c = true) : w ≠ [40] ∧ w ≠ [41] ∧ w ≠ [94] ∧ opOf w = none ∧ dl w = 0 := by
  have : ∀ k : Nat, (k = 40 ∨ k = 41 ∨ k = 94 ∨ k = 43 ∨ k = 45 ∨ k = 42 ∨ k = 47) → w ≠ [k] := fun k hk e => by
    have := nsg_ne (h k (by rw [e]; exact List.mem_singleton.mpr rfl))
    omega
  refine ⟨this 40 (by decide), this 41 (by decide), this 94 (by decide), ?_, ?_⟩
  · unfold opOf
    rw [if_neg (this 43 (by decide)), if_neg (this 45 (by decide)), if_neg (this 42 (by decide)), if_neg (this 47 (by decide))]
  · unfold dl
    rw [if_neg (this 40 (by decide)), if_neg (this 41 (by decide))]
theorem mx_flat {w : W} (r : List W) (h : dl w = 0) : mx (w :: r) = mx r := by
  have := mx_pos r
  show max 0 (dl w + mx r) = _
  rw [h]; omega
theorem mx_open (r : List W) : mx ([40] :: r) = 1 + mx r := by
  have := mx_pos r
  show max 0 (dl [40] + mx r) = _
  rw [show dl [40] = 1 by rfl]; omega
theorem mx_close (r : List W) : mx r ≤ mx ([41] :: r) + 1 := by
  show _ ≤ max 0 (dl [41] + mx r) + 1
  rw [show dl [41] = -1 by rfl]; omega
theorem atom_sp {s : Pa} {n : Int} (hs : Ss s n) : (∀ ts, mx ts < n + 1 → pAtom s ts = none → ∀ f T S p, cond f ts → run f T S false p ts = none) ∧
    (∀ ts t r, mx ts < n + 1 → pAtom s ts = some (t, r) → mx r ≤ mx ts ∧ r.length < ts.length ∧ ∀ f T S p, cond f ts → run f T S false p ts = run false (t :: T) S true false r) := by
  -- what follows a sum within brackets
  have br : ∀ (r : List W) (S0 : Sg) (wrap : Tr → Tr), S0.rank = 0 → (∀ (T : List Tr) (S : List Sg) (t : Tr) (p : Bool) (r' : List W), run false (t :: T) (S0 :: S) true p ([41] :: r') = run false (wrap t :: T) S true false r') → mx r < n →
      (∀ x, (match s r with | some (t, [41] :: r') => some (wrap t, r') | _ => none) = x →
        (x = none → ∀ T S p, run true T (S0 :: S) false p r = none) ∧ (∀ t r', x = some (t, r') → mx r' ≤ mx r + 1 ∧ r'.length < r.length ∧ ∀ T S p, run true T (S0 :: S) false p r = run false (t :: T) S true false r')) := by
    intro r S0 wrap h0 hc hm x hx
    cases e : s r with
    | none =>
      rw [e] at hx
      subst hx
      exact ⟨fun _ T S p => hs.no r hm e T (S0 :: S) p h0, fun t r' z => nomatch z⟩
    | some q =>
      obtain ⟨t, r1⟩ := q
      obtain ⟨a1, a2, a3, p', a4, a5⟩ := hs.yes r t r1 hm e
      rw [e] at hx
      match r1, hx, a1, a2, a3, a4, a5 with
      | [], hx, a1, a2, a3, a4, a5 =>
        subst hx
        refine ⟨fun _ T S p => ?_, fun t r' z => nomatch z⟩
        rw [a5 T (S0 :: S) p h0]
        unfold run
        rw [settle_id _ _ (show S0.rank < 1 by omega)]
        rfl
      | w :: r', hx, a1, a2, a3, a4, a5 =>
        by_cases hw : w = [41]
        · subst hw
          subst hx
          refine ⟨fun z => (nomatch z), fun t' r2 z => ?_⟩
          cases z
          refine ⟨Int.le_trans (mx_close r') (by omega), by simp at a2; omega, fun T S p => ?_⟩
          rw [a5 T (S0 :: S) p h0, hc]
        · have : x = none := by
            rw [← hx]
            split
            · next h => cases h; exact absurd rfl hw
            · rfl
          subst this
          refine ⟨fun _ T S p => ?_, fun t r' z => nomatch z⟩
          rw [a5 T (S0 :: S) p h0]
          exact stuck (a3 w r' rfl) hw a4
  have c1 : ∀ (T : List Tr) (S : List Sg) (t : Tr) (p : Bool) (r' : List W), run false (t :: T) (.opn :: S) true p ([41] :: r') = run false (t :: T) S true false r' := by
    intro T S t p r'
    conv => lhs; unfold run
    rw [settle_id _ _ (show Sg.rank .opn < 1 by decide)]
    rfl
  have c2 : ∀ (w : W) (T : List Tr) (S : List Sg) (t : Tr) (p : Bool) (r' : List W), run false (t :: T) (.call w :: S) true p ([41] :: r') = run false (.call w t :: T) S true false r' := by
    intro w T S t p r'
    conv => lhs; unfold run
    rw [settle_id _ _ (Nat.zero_lt_one : Sg.rank (.call w) < 1)]
    rfl
  have o1 : ∀ (f : Bool) (T : List Tr) (S : List Sg) (p : Bool) (r : List W), run f T S false p ([40] :: r) = run true T (.opn :: S) false p r := by
    intro f T S p r; conv => lhs; unfold run
    rfl
  have o2 : ∀ (w : W) (f : Bool) (T : List Tr) (S : List Sg) (p : Bool) (r : List W), isCall w = true → run f T S false p (w :: [40] :: r) = run true T (.call w :: S) false p r := by
    intro w f T S p r h
    obtain ⟨n1, n2, n3, n4, _⟩ := call_ne h
    conv => lhs; unfold run
    rw [if_neg n1, if_neg n2, if_neg n3, n4]
    simp only [h, if_true]
    rfl
  refine ⟨fun ts hm hn f T S p hc => ?_, fun ts t r hm hy => ?_⟩
  · match ts, hm, hn, hc with
    | [], _, _, _ => unfold run; rfl
    | w :: r, hm, hn, hc =>
      by_cases hw : w = [40]
      · subst hw
        rw [o1]
        rw [mx_open] at hm
        exact (br r .opn id rfl c1 (by omega) _ (by unfold pAtom at hn; dsimp only at hn; rw [if_pos rfl] at hn; exact hn)).1 rfl T S p
      · by_cases hk : isCall w = true ∧ r.head? = some [40]
        · obtain ⟨hk1, hk2⟩ := id hk
          obtain ⟨r2, rfl⟩ : ∃ r2, r = [40] :: r2 := by
            cases r with
            | nil => cases hk2
            | cons a r2 => exact ⟨r2, by cases hk2; rfl⟩
          rw [o2 w f T S p r2 hk1]
          rw [mx_flat _ (call_ne hk1).2.2.2.2, mx_open] at hm
          exact (br r2 (.call w) (.call w) rfl (c2 w) (by omega) _ (by unfold pAtom at hn; dsimp only at hn; rw [if_neg hw, if_pos hk] at hn; exact hn)).1 rfl T S p
        · unfold pAtom at hn; dsimp only at hn
          rw [if_neg hw, if_neg hk] at hn
          have hf : figs w = false := by cases e : figs w with | false => rfl | true => rw [e] at hn; simp at hn
          rw [hf] at hn
          have hnm : isName w = false := by cases e : isName w with | false => rfl | true => rw [e] at hn; simp at hn
          unfold run
          rw [if_neg hw]
          simp only [Bool.false_eq_true, if_false, hf, hnm]
          split
          · rfl
          split
          · split
            · simp
            · rfl
          · cases e : opOf w with
            | some q =>
              simp only
              rw [if_neg]
              rintro ⟨e1, e2⟩
              exact hc e2 (by rw [e1]; rfl)
            | none =>
              simp only
              split
              · next hcl =>
                split
                · next r' => exact absurd ⟨hcl, rfl⟩ hk
                · rfl
              · rfl
  · match ts, hm, hy with
    | w :: r0, hm, hy =>
      by_cases hw : w = [40]
      · subst hw
        have hm' := hm
        rw [mx_open] at hm'
        obtain ⟨b1, b2, b3⟩ := (br r0 .opn id rfl c1 (by omega) _ (by unfold pAtom at hy; dsimp only at hy; rw [if_pos rfl] at hy; exact hy)).2 t r rfl
        refine ⟨by rw [mx_open]; omega, by simp; omega, fun f T S p _ => ?_⟩
        rw [o1]; exact b3 T S p
      · by_cases hk : isCall w = true ∧ r0.head? = some [40]
        · obtain ⟨hk1, hk2⟩ := id hk
          obtain ⟨r2, rfl⟩ : ∃ r2, r0 = [40] :: r2 := by
            cases r0 with
            | nil => cases hk2
            | cons a r2 => exact ⟨r2, by cases hk2; rfl⟩
          have hm' := hm
          rw [mx_flat _ (call_ne hk1).2.2.2.2, mx_open] at hm'
          obtain ⟨b1, b2, b3⟩ := (br r2 (.call w) (.call w) rfl (c2 w) (by omega) _ (by unfold pAtom at hy; dsimp only at hy; rw [if_neg hw, if_pos hk] at hy; exact hy)).2 t r rfl
          refine ⟨by rw [mx_flat _ (call_ne hk1).2.2.2.2, mx_open]; omega, by simp; omega, fun f T S p _ => ?_⟩
          rw [o2 w f T S p r2 hk1]; exact b3 T S p
        · unfold pAtom at hy; dsimp only at hy
          rw [if_neg hw, if_neg hk] at hy
          cases hf : figs w with
          | true =>
            rw [hf] at hy
            simp only [if_true] at hy
            cases hy
            obtain ⟨z1, z2⟩ := figs_dig hf
            obtain ⟨n1, n2, n3, n4, n5⟩ := run_word z1 fun c hc => dig_nsg (z2 c hc)
            refine ⟨by rw [mx_flat _ n5]; exact Int.le_refl _, by simp, fun f T S p _ => ?_⟩
            have nc : isCall w = false := by
              cases e : isCall w with
              | false => rfl
              | true =>
                have h' : w ∈ calls := of_decide_eq_true e
                unfold calls at h'
                simp only [List.mem_cons, List.mem_nil_iff, or_false] at h'
                rcases h' with rfl | rfl | rfl | rfl | rfl | rfl <;> exact absurd hf (by decide)
            conv => lhs; unfold run
            rw [if_neg n1, if_neg n2, if_neg n3, n4]
            simp only [nc, Bool.false_eq_true, if_false, hf, if_true]
          | false =>
            rw [hf] at hy
            simp only [Bool.false_eq_true, if_false] at hy
            cases hm2 : isName w with
            | false => rw [hm2] at hy; simp at hy
            | true =>
              rw [hm2] at hy
              simp only [if_true] at hy
              cases hy
              obtain ⟨z1, z2⟩ := name_nsg hm2
              obtain ⟨n1, n2, n3, n4, n5⟩ := run_word z1 z2
              refine ⟨by rw [mx_flat _ n5]; exact Int.le_refl _, by simp, fun f T S p _ => ?_⟩
              have nc : isCall w = false := by
                cases e : isCall w with
                | false => rfl
                | true =>
                  have h' : w ∈ calls := of_decide_eq_true e
                  unfold calls at h'
                  simp only [List.mem_cons, List.mem_nil_iff, or_false] at h'
                  rcases h' with rfl | rfl | rfl | rfl | rfl | rfl <;> exact absurd hm2 (by decide)
              conv => lhs; unfold run
              rw [if_neg n1, if_neg n2, if_neg n3, n4]
              simp only [nc, Bool.false_eq_true, if_false, hf, hm2, if_true]
theorem pow_sp {s : Pa} {n : Int} (hs : Ss s n) : (∀ ts, mx ts < n + 1 → pPow s ts = none → ∀ f T S p, cond f ts → run f T S false p ts = none) ∧
    (∀ ts t r, mx ts < n + 1 → pPow s ts = some (t, r) → mx r ≤ mx ts ∧ r.length < ts.length ∧ ∃ p', good p' r ∧ ∀ f T S p, cond f ts → run f T S false p ts = run false (t :: T) S true p' r) := by
  obtain ⟨a0, a1⟩ := atom_sp hs
  have hat : ∀ (T : List Tr) (S : List Sg) (t : Tr) (r : List W), run false (t :: T) S true false ([94] :: r) = (match r with
      | [d] :: r' => if dig d then run false (.pow t (d - 48) :: T) S true true r' else none
      | _ => none) := by
    intro T S t r
    conv => lhs; unfold run
    rw [if_neg (by decide), if_neg (by decide), if_pos rfl]
    match r with
    | [] => rfl
    | [] :: _ => rfl
    | [d] :: r' => simp
    | (_ :: _ :: _) :: _ => rfl
  refine ⟨fun ts hm hn f T S p hc => ?_, fun ts t r hm hy => ?_⟩
  · unfold pPow at hn
    cases e : pAtom s ts with
    | none => exact a0 ts hm e f T S p hc
    | some q =>
      obtain ⟨t, r⟩ := q
      rw [e] at hn
      obtain ⟨b1, b2, b3⟩ := a1 ts t r hm e
      rw [b3 f T S p hc]
      match r, hn with
      | w :: r1, hn =>
        simp only at hn
        by_cases hw : w = [94]
        · subst hw
          rw [if_pos rfl] at hn
          rw [hat]
          match r1, hn with
          | [], _ => rfl
          | [] :: _, _ => rfl
          | [d] :: r', hn =>
            simp only at hn ⊢
            split at hn
            · cases hn
            · next hd => rw [if_neg hd]
          | (_ :: _ :: _) :: _, _ => rfl
        · rw [if_neg hw] at hn; cases hn
  · unfold pPow at hy
    cases e : pAtom s ts with
    | none => rw [e] at hy; cases hy
    | some q =>
      obtain ⟨t0, r0⟩ := q
      rw [e] at hy
      obtain ⟨b1, b2, b3⟩ := a1 ts t0 r0 hm e
      match r0, hy, b1, b2, b3 with
      | [], hy, b1, b2, b3 =>
        simp only at hy
        cases hy
        exact ⟨b1, b2, false, fun r h => (nomatch h), b3⟩
      | w :: r1, hy, b1, b2, b3 =>
        simp only at hy
        by_cases hw : w = [94]
        · subst hw
          rw [if_pos rfl] at hy
          match r1, hy, b1, b2, b3 with
          | [d] :: r', hy, b1, b2, b3 =>
            simp only at hy
            split at hy
            · next hd =>
              cases hy
              have nd : nsg d = true := dig_nsg hd
              have w1 := (run_word (w := [d]) nofun fun c hc => by cases List.mem_singleton.mp hc; exact nd).2.2.2.2
              rw [mx_flat _ (show dl [94] = 0 by rfl), mx_flat _ w1] at b1
              refine ⟨b1, by simp at b2; omega, true, fun _ _ => rfl, fun f T S p hc => ?_⟩
              rw [b3 f T S p hc, hat]
              simp only [hd, if_true]
            · cases hy
        · rw [if_neg hw] at hy
          cases hy
          exact ⟨b1, b2, false, fun r h => by cases h; exact absurd rfl hw, b3⟩
/-- a chain of operators of one rank -/
theorem chain_sp {hit : W → Option Op} {f : Pa} {n : Int} {lim : Nat} (hh : ∀ w q, hit w = some q → opOf w = some q ∧ (Sg.op q).rank = lim) (hm' : ∀ w q, opOf w = some q → hit w = none → (Sg.op q).rank ≠ lim)
    (f0 : ∀ ts, mx ts < n → f ts = none → ∀ T S p, top S < lim + 1 → run false T S false p ts = none)
    (f1 : ∀ ts t r, mx ts < n → f ts = some (t, r) → mx r ≤ mx ts ∧ r.length < ts.length ∧ (∀ w r' q, r = w :: r' → opOf w = some q → (Sg.op q).rank ≤ lim) ∧ ∃ p', good p' r ∧ ∀ T S p, top S < lim + 1 → run false T S false p ts = run false (t :: T) S true p' r) :
    ∀ k t ts p0, ts.length ≤ k → mx ts < n → good p0 ts → (∀ w r' q, ts = w :: r' → opOf w = some q → (Sg.op q).rank ≤ lim) →
      (chain hit f k t ts = none → ∀ T S, top S < lim → run false (t :: T) S true p0 ts = none) ∧
      (∀ t' r, chain hit f k t ts = some (t', r) → mx r ≤ mx ts ∧ r.length ≤ ts.length ∧ (∀ w r' q, r = w :: r' → opOf w = some q → (Sg.op q).rank < lim) ∧ ∃ p', good p' r ∧ ∀ T S, top S < lim → run false (t :: T) S true p0 ts = run false (t' :: T) S true p' r)
  | 0, t, ts, p0, hl, hm, hg, hr => by
    have : ts = [] := List.length_eq_zero_iff.mp (by omega)
    subst this
    refine ⟨fun z => (nomatch z), fun t' r z => ?_⟩
    cases z
    exact ⟨Int.le_refl _, Nat.le_refl _, fun w r' q h => (nomatch h), p0, hg, fun _ _ _ => rfl⟩
  | k + 1, t, [], p0, hl, hm, hg, hr => by
    refine ⟨fun z => (nomatch z), fun t' r z => ?_⟩
    cases z
    exact ⟨Int.le_refl _, Nat.le_refl _, fun w r' q h => (nomatch h), p0, hg, fun _ _ _ => rfl⟩
  | k + 1, t, w :: r0, p0, hl, hm, hg, hr => by
    cases e : hit w with
    | none =>
      have ec : chain hit f (k + 1) t (w :: r0) = some (t, w :: r0) := by unfold chain; simp only [e]
      rw [ec]
      refine ⟨fun z => (nomatch z), fun t' r z => ?_⟩
      cases z
      exact ⟨Int.le_refl _, Nat.le_refl _, fun w' r' q h1 h2 => by
        cases h1
        have := hr w r0 q rfl h2
        have := hm' w q h2 e
        omega, p0, hg, fun _ _ _ => rfl⟩
    | some q =>
      obtain ⟨h1, h2⟩ := hh w q e
      have ew := op_of h1
      have hd : dl w = 0 := by rw [ew]; cases q <;> rfl
      have hm2 : mx r0 < n := by rw [mx_flat _ hd] at hm; exact hm
      have st : ∀ (T : List Tr) (S : List Sg), top S < lim → run false (t :: T) S true p0 (w :: r0) = run false (t :: T) (.op q :: S) false p0 r0 := by
        intro T S hS
        conv => lhs; unfold run
        have n1 : w ≠ [40] := by rw [ew]; cases q <;> decide
        have n2 : w ≠ [41] := by rw [ew]; cases q <;> decide
        have n3 : w ≠ [94] := by rw [ew]; cases q <;> decide
        rw [if_neg n1, if_neg n2, if_neg n3, h1]
        simp only [if_true]
        rw [settle_id _ _ (by rw [h2]; exact hS)]
      have tq : ∀ S, top (.op q :: S) < lim + 1 := fun S => by show (Sg.op q).rank < _; omega
      cases e2 : f r0 with
      | none =>
        have ec : chain hit f (k + 1) t (w :: r0) = none := by unfold chain; simp only [e, e2]
        rw [ec]
        exact ⟨fun _ T S hS => by rw [st T S hS]; exact f0 r0 hm2 e2 _ _ _ (tq S), fun t' r z => nomatch z⟩
      | some x =>
        obtain ⟨u, r1⟩ := x
        have ec : chain hit f (k + 1) t (w :: r0) = chain hit f k (.op q t u) r1 := by
          show (match hit w with | none => some (t, w :: r0) | some o => match f r0 with | none => none | some (u, r') => chain hit f k (.op o t u) r') = _
          rw [e]
          dsimp only
          rw [e2]
        rw [ec]
        obtain ⟨c1, c2, c3, p1, c4, c5⟩ := f1 r0 u r1 hm2 e2
        have ih := chain_sp hh hm' f0 f1 k (.op q t u) r1 p1 (by simp at hl; omega) (by omega) c4 c3
        have go : ∀ (T : List Tr) (S : List Sg), top S < lim → run false (t :: T) S true p0 (w :: r0) = run false (.op q t u :: T) S true p1 r1 := by
          intro T S hS
          rw [st T S hS, c5 _ _ _ (tq S)]
          exact fire_op c4 fun w' r' q' h3 h4 => by rw [h2]; exact c3 w' r' q' h3 h4
        refine ⟨fun z T S hS => by rw [go T S hS]; exact ih.1 z T S hS, fun t' r z => ?_⟩
        obtain ⟨d1, d2, d3, p', d4, d5⟩ := ih.2 t' r z
        refine ⟨by rw [mx_flat _ hd]; omega, by simp; omega, d3, p', d4, fun T S hS => ?_⟩
        rw [go T S hS]; exact d5 T S hS
theorem high_hit {w : W} {q : Op} (h : highOp w = some q) : opOf w = some q ∧ (Sg.op q).rank = 2 := by
  unfold highOp at h
  split at h
  · next e => cases h; subst e; decide
  split at h
  · next e => cases h; subst e; decide
  · cases h
theorem low_hit {w : W} {q : Op} (h : lowOp w = some q) : opOf w = some q ∧ (Sg.op q).rank = 1 := by
  unfold lowOp at h
  split at h
  · next e => cases h; subst e; decide
  split at h
  · next e => cases h; subst e; decide
  · cases h
theorem high_not {w : W} {q : Op} (h : opOf w = some q) (h2 : highOp w = none) : (Sg.op q).rank ≠ 2 := by
  have := op_of h
  subst this
  cases q <;> revert h2 <;> decide
theorem low_not {w : W} {q : Op} (h : opOf w = some q) (h2 : lowOp w = none) : (Sg.op q).rank ≠ 1 := by
  have := op_of h
  subst this
  cases q <;> revert h2 <;> decide
theorem prod_sp {s : Pa} {n : Int} (hs : Ss s n) : (∀ ts, mx ts < n + 1 → pProd s ts = none → ∀ f T S p, cond f ts → top S < 2 → run f T S false p ts = none) ∧
    (∀ ts t r, mx ts < n + 1 → pProd s ts = some (t, r) → mx r ≤ mx ts ∧ r.length < ts.length ∧ (∀ w r' q, r = w :: r' → opOf w = some q → (Sg.op q).rank ≤ 1) ∧ ∃ p', good p' r ∧ ∀ f T S p, cond f ts → top S < 2 → run f T S false p ts = run false (t :: T) S true p' r) := by
  obtain ⟨a0, a1⟩ := pow_sp hs
  have key := chain_sp (hit := highOp) (f := pPow s) (n := n + 1) (lim := 2) (fun w q => high_hit) (fun w q => high_not) (fun ts hm hn T S p _ => a0 ts hm hn false T S p nofun)
    (fun ts t r hm hy => by
      obtain ⟨b1, b2, p', b3, b4⟩ := a1 ts t r hm hy
      exact ⟨b1, b2, fun _ _ q _ _ => (op_rank q).2, p', b3, fun T S p _ => b4 false T S p nofun⟩)
  refine ⟨fun ts hm hn f T S p hc hS => ?_, fun ts t r hm hy => ?_⟩
  · unfold pProd at hn
    cases e : pPow s ts with
    | none => exact a0 ts hm e f T S p hc
    | some q =>
      obtain ⟨t, r⟩ := q
      rw [e] at hn
      obtain ⟨b1, b2, p', b3, b4⟩ := a1 ts t r hm e
      rw [b4 f T S p hc]
      exact (key r.length t r p' (Nat.le_refl _) (by omega) b3 fun _ _ q _ _ => (op_rank q).2).1 hn T S hS
  · unfold pProd at hy
    cases e : pPow s ts with
    | none => rw [e] at hy; cases hy
    | some q =>
      obtain ⟨t0, r0⟩ := q
      rw [e] at hy
      obtain ⟨b1, b2, p', b3, b4⟩ := a1 ts t0 r0 hm e
      obtain ⟨c1, c2, c3, p2, c4, c5⟩ := (key r0.length t0 r0 p' (Nat.le_refl _) (by omega) b3 fun _ _ q _ _ => (op_rank q).2).2 t r hy
      exact ⟨by omega, by omega, fun w r' q h1 h2 => by have := c3 w r' q h1 h2; omega, p2, c4, fun f T S p hc hS => by rw [b4 f T S p hc]; exact c5 T S hS⟩
theorem sum_sp {s : Pa} {n : Int} (hs : Ss s n) : Ss (pSum s) (n + 1) := by
  obtain ⟨a0, a1⟩ := prod_sp hs
  have key := chain_sp (hit := lowOp) (f := pProd s) (n := n + 1) (lim := 1) (fun w q => low_hit) (fun w q => low_not) (fun ts hm hn T S p hS => a0 ts hm hn false T S p nofun hS)
    (fun ts t r hm hy => by
      obtain ⟨b1, b2, b3, p', b4, b5⟩ := a1 ts t r hm hy
      exact ⟨b1, b2, b3, p', b4, fun T S p hS => b5 false T S p nofun hS⟩)
  have mi : ∀ (T : List Tr) (S : List Sg) (p : Bool) (r : List W), run true T S false p ([45] :: r) = run false T (.neg :: S) false p r := by
    intro T S p r
    conv => lhs; unfold run
    rfl
  refine ⟨fun ts hm hn T S p hS => ?_, fun ts t r hm hy => ?_⟩
  · unfold pSum at hn
    by_cases hh : ts.head? = some [45]
    · obtain ⟨r0, rfl⟩ : ∃ r0, ts = [45] :: r0 := by
        cases ts with
        | nil => cases hh
        | cons a r0 => exact ⟨r0, by cases hh; rfl⟩
      rw [mx_flat _ (show dl [45] = 0 by rfl)] at hm
      simp only [List.head?_cons, decide_true, if_true, List.tail_cons] at hn
      rw [mi]
      cases e : pProd s r0 with
      | none => exact a0 r0 hm e false T _ p nofun (by show Sg.rank .neg < 2; decide)
      | some q =>
        obtain ⟨t, r⟩ := q
        rw [e] at hn
        obtain ⟨b1, b2, b3, p', b4, b5⟩ := a1 r0 t r hm e
        rw [b5 false T _ p nofun (by show Sg.rank .neg < 2; decide), fire_neg b4 b3]
        exact (key r.length (.neg t) r p' (Nat.le_refl _) (by omega) b4 b3).1 hn T S (by omega)
    · have hd : decide (ts.head? = some [45]) = false := decide_eq_false hh
      simp only [hd, Bool.false_eq_true, if_false] at hn
      cases e : pProd s ts with
      | none => exact a0 ts hm e true T S p (fun _ => hh) (by omega)
      | some q =>
        obtain ⟨t, r⟩ := q
        rw [e] at hn
        obtain ⟨b1, b2, b3, p', b4, b5⟩ := a1 ts t r hm e
        rw [b5 true T _ p (fun _ => hh) (by omega)]
        exact (key r.length t r p' (Nat.le_refl _) (by omega) b4 b3).1 hn T S (by omega)
  · unfold pSum at hy
    by_cases hh : ts.head? = some [45]
    · obtain ⟨r0, rfl⟩ : ∃ r0, ts = [45] :: r0 := by
        cases ts with
        | nil => cases hh
        | cons a r0 => exact ⟨r0, by cases hh; rfl⟩
      rw [mx_flat _ (show dl [45] = 0 by rfl)] at hm ⊢
      simp only [List.head?_cons, decide_true, if_true, List.tail_cons] at hy
      cases e : pProd s r0 with
      | none => rw [e] at hy; cases hy
      | some q =>
        obtain ⟨t1, r1⟩ := q
        rw [e] at hy
        obtain ⟨b1, b2, b3, p', b4, b5⟩ := a1 r0 t1 r1 hm e
        obtain ⟨c1, c2, c3, p2, c4, c5⟩ := (key r1.length (.neg t1) r1 p' (Nat.le_refl _) (by omega) b4 b3).2 t r hy
        refine ⟨by omega, by simp; omega, fun w r' h => ?_, p2, c4, fun T S p hS => ?_⟩
        · cases z : opOf w with
          | none => rfl
          | some q => have := c3 w r' q h z; have := (op_rank q).1; omega
        · rw [mi, b5 false T _ p nofun (by show Sg.rank .neg < 2; decide), fire_neg b4 b3]
          exact c5 T S (by omega)
    · have hd : decide (ts.head? = some [45]) = false := decide_eq_false hh
      simp only [hd, Bool.false_eq_true, if_false] at hy
      cases e : pProd s ts with
      | none => rw [e] at hy; cases hy
      | some q =>
        obtain ⟨t1, r1⟩ := q
        rw [e] at hy
        obtain ⟨b1, b2, b3, p', b4, b5⟩ := a1 ts t1 r1 hm e
        obtain ⟨c1, c2, c3, p2, c4, c5⟩ := (key r1.length t1 r1 p' (Nat.le_refl _) (by omega) b4 b3).2 t r hy
        refine ⟨by omega, by omega, fun w r' h => ?_, p2, c4, fun T S p hS => ?_⟩
        · cases z : opOf w with
          | none => rfl
          | some q => have := c3 w r' q h z; have := (op_rank q).1; omega
        · rw [b5 true T _ p (fun _ => hh) (by omega)]
          exact c5 T S (by omega)
theorem sumN_sp : ∀ n : Nat, Ss (sumN n) n
  | 0 => ⟨fun ts h => absurd h (by have := mx_pos ts; omega), fun ts _ _ h => absurd h (by have := mx_pos ts; omega)⟩
  | n + 1 => by
    have := sum_sp (sumN_sp n)
    rwa [show ((n : Int) + 1) = ((n + 1 : Nat) : Int) by omega] at this
def parse (n : Nat) (ts : List W) : Option Tr := match sumN n ts with
  | some (t, []) => some t
  | _ => none
theorem run_parse (n : Nat) (ts : List W) (h : mx ts < n) : run true [] [] false false ts = parse n ts := by
  have hs := sumN_sp n
  unfold parse
  cases e : sumN n ts with
  | none => exact hs.no ts h e [] [] false rfl
  | some q =>
    obtain ⟨t, r⟩ := q
    obtain ⟨b1, b2, b3, p', b4, b5⟩ := hs.yes ts t r h e
    rw [b5 [] [] false rfl]
    match r, b3, b4 with
    | [], _, _ => unfold run; rfl
    | w :: r', b3, b4 =>
      by_cases hw : w = [41]
      · subst hw; unfold run; rfl
      · exact stuck (b3 w r' rfl) hw b4
end Pl

set_option linter.all false
/-! # What is written is read back -/
namespace Pl
def sepd (y : W) : Prop := ∀ c r, y = c :: r → nsg c = false
/-- x has the words ts, whatever stands behind it apart -/
def Dw (x : W) (ts : List W) : Prop := ∀ y ys, toks y = some ys → sepd y → toks (x ++ y) = some (ts ++ ys)
theorem toks_sgn {c : Nat} {y : W} {ys : List W} (h : sgn c = true) (hy : toks y = some ys) : toks (c :: y) = some ([c] :: ys) := by
  have hn : nsg c = false := by
    unfold sgn at h
    have h := of_decide_eq_true h
    simp only [List.mem_cons, List.mem_nil_iff, or_false] at h
    rcases h with rfl | rfl | rfl | rfl | rfl | rfl | rfl <;> decide
  unfold toks
  rw [hy]
  simp [hn, h]
theorem toks_blank {y : W} : toks (32 :: y) = toks y := by
  have h1 : nsg 32 = false := by decide
  have h2 : sgn 32 = false := by decide
  conv => lhs; unfold toks
  simp [h1, h2]
def blk (b : W) : Prop := ∀ c ∈ b, c = 32
theorem toks_blk : ∀ {b : W} {y : W}, blk b → toks (b ++ y) = toks y
  | [], y, _ => rfl
  | c :: b, y, h => by
    have : c = 32 := h c List.mem_cons_self
    subst this
    rw [List.cons_append, toks_blank]
    exact toks_blk fun c hc => h c (List.mem_cons_of_mem _ hc)
theorem sep_blk {b y : W} (h : blk b) (hy : sepd y) : sepd (b ++ y) := fun c r e => by
  cases b with
  | nil => exact hy c r e
  | cons d b =>
    have : d = 32 := h d List.mem_cons_self
    cases e; subst this; decide
theorem sep_sgn {c : Nat} {y : W} (h : sgn c = true) : sepd (c :: y) := fun d r e => by
  cases e
  unfold sgn at h
  have h := of_decide_eq_true h
  simp only [List.mem_cons, List.mem_nil_iff, or_false] at h
  rcases h with rfl | rfl | rfl | rfl | rfl | rfl | rfl <;> decide
theorem dw_word : ∀ {w : W}, w ≠ [] → (∀ c ∈ w, nsg c = true) → Dw w [w]
  | [c], _, h, y, ys, hy, hs => by
    have hc := h c (List.mem_singleton.mpr rfl)
    show toks (c :: y) = _
    unfold toks
    rw [hy]
    simp only [Option.bind_some, hc, if_true]
    cases y with
    | nil => simp
    | cons d r =>
      have hd := hs d r rfl
      cases ys with
      | nil => simp
      | cons t ts => simp [hd]
  | c :: d :: r, _, h, y, ys, hy, hs => by
    have hc := h c List.mem_cons_self
    have hd := h d (List.mem_cons_of_mem _ List.mem_cons_self)
    have ih := dw_word (w := d :: r) nofun (fun e he => h e (List.mem_cons_of_mem _ he)) y ys hy hs
    show toks (c :: (d :: r ++ y)) = _
    unfold toks
    rw [ih]
    simp [hc, hd]
theorem dw_end {x : W} {ts : List W} (h : Dw x ts) : toks x = some ts := by
  have := h [] [] rfl (fun _ _ e => nomatch e)
  simpa using this
/-! ### levels: 4 atom, 3 power, 2 product, 1 sum -/
def nhd (l : List W) (r : List W) : Prop := ∀ w r', r = w :: r' → w ∉ l
def RA (n : Nat) (t : Tr) (ts : List W) : Prop := ts.head? ≠ some [45] ∧ ts ≠ [] ∧ ∀ m, n ≤ m → ∀ r, pAtom (sumN m) (ts ++ r) = some (t, r)
def RW (n : Nat) (t : Tr) (ts : List W) : Prop := ts.head? ≠ some [45] ∧ ts ≠ [] ∧ ∀ m, n ≤ m → ∀ r, nhd [[94]] r → pPow (sumN m) (ts ++ r) = some (t, r)
def RP (n : Nat) (t : Tr) (ts : List W) : Prop := ts.head? ≠ some [45] ∧ ts ≠ [] ∧ ∀ m, n ≤ m → ∀ r, nhd [[94]] r → ∃ k, r.length ≤ k ∧ pProd (sumN m) (ts ++ r) = chain highOp (pPow (sumN m)) k t r
def RS (n : Nat) (t : Tr) (ts : List W) : Prop := ∀ m, n ≤ m → ∀ r, nhd [[94], [42], [47]] r → ∃ k, r.length ≤ k ∧ pSum (sumN m) (ts ++ r) = chain lowOp (pProd (sumN m)) k t r
theorem chain_end {hit : W → Option Op} {f : Pa} (t : Tr) : ∀ (k : Nat) (r : List W), (∀ w r', r = w :: r' → hit w = none) → chain hit f k t r = some (t, r)
  | 0, r, _ => rfl
  | k + 1, [], _ => rfl
  | k + 1, w :: r, h => by unfold chain; simp only [h w r rfl]
theorem RA.w {n : Nat} {t : Tr} {ts : List W} (h : RA n t ts) : RW n t ts := ⟨h.1, h.2.1, fun m hm r hr => by
  unfold pPow
  rw [h.2.2 m hm r]
  match r, hr with
  | [], _ => rfl
  | w :: r', hr =>
    have : w ≠ [94] := fun e => hr w r' rfl (by rw [e]; exact List.mem_singleton.mpr rfl)
    simp only [if_neg this]⟩
theorem RW.p {n : Nat} {t : Tr} {ts : List W} (h : RW n t ts) : RP n t ts := ⟨h.1, h.2.1, fun m hm r hr => ⟨r.length, Nat.le_refl _, by
  unfold pProd
  rw [h.2.2 m hm r hr]⟩⟩
theorem nhd_sub {l l' : List W} {r : List W} (h : nhd l r) (hs : ∀ w ∈ l', w ∈ l) : nhd l' r := fun w r' e z => h w r' e (hs w z)
theorem high_none {r : List W} (h : nhd [[42], [47]] r) : ∀ w r', r = w :: r' → highOp w = none := fun w r' e => by
  have := h w r' e
  unfold highOp
  rw [if_neg (fun z => this (by rw [z]; simp)), if_neg (fun z => this (by rw [z]; simp))]
theorem low_none {r : List W} (h : nhd [[43], [45]] r) : ∀ w r', r = w :: r' → lowOp w = none := fun w r' e => by
  have := h w r' e
  unfold lowOp
  rw [if_neg (fun z => this (by rw [z]; simp)), if_neg (fun z => this (by rw [z]; simp))]
theorem RP.read {n : Nat} {t : Tr} {ts : List W} (h : RP n t ts) (m : Nat) (hm : n ≤ m) (r : List W) (hr : nhd [[94], [42], [47]] r) : pProd (sumN m) (ts ++ r) = some (t, r) := by
  obtain ⟨k, _, e⟩ := h.2.2 m hm r (nhd_sub hr (by simp))
  rw [e]
  exact chain_end t k r (high_none (nhd_sub hr (by simp)))
theorem hd_app {ts r : List W} (h : ts.head? ≠ some [45]) (h0 : ts ≠ []) : (ts ++ r).head? ≠ some [45] := by
  cases ts with
  | nil => exact absurd rfl h0
  | cons a b => exact h
theorem RP.s {n : Nat} {t : Tr} {ts : List W} (h : RP n t ts) : RS n t ts := fun m hm r hr => ⟨r.length, Nat.le_refl _, by
  unfold pSum
  have hd : decide ((ts ++ r).head? = some [45]) = false := decide_eq_false (hd_app h.1 h.2.1)
  simp only [hd, Bool.false_eq_true, if_false]
  rw [h.read m hm r hr]⟩
theorem RS.read {n : Nat} {t : Tr} {ts : List W} (h : RS n t ts) (m : Nat) (hm : n ≤ m) (r : List W) (hr : nhd [[94], [42], [47], [43], [45]] r) : pSum (sumN m) (ts ++ r) = some (t, r) := by
  obtain ⟨k, _, e⟩ := h m hm r (nhd_sub hr (by simp))
  rw [e]
  exact chain_end t k r (low_none (nhd_sub hr (by simp)))
theorem ra_word {t : Tr} {w : W} (h1 : w ≠ []) (h2 : ∀ c ∈ w, nsg c = true) (h3 : isCall w = false) (h : (if figs w then some (Tr.num w) else if isName w then some (Tr.name w) else none) = some t) : RA 0 t [w] := by
  obtain ⟨n1, n2, n3, n4, n5⟩ := run_word h1 h2
  refine ⟨fun e => ?_, nofun, fun m _ r => ?_⟩
  · have e' : w = [45] := by cases e; rfl
    rw [e'] at n4
    exact absurd n4 (by decide)
  · show pAtom (sumN m) (w :: r) = _
    unfold pAtom
    dsimp only
    rw [if_neg n1, if_neg (fun z => by rw [h3] at z; exact Bool.noConfusion z.1)]
    split
    · next hf => rw [if_pos hf] at h; cases h; rfl
    · next hf =>
      rw [if_neg hf] at h
      split
      · next hn => rw [if_pos hn] at h; cases h; rfl
      · next hn => rw [if_neg hn] at h; cases h
theorem nh_close (r : List W) : nhd [[94], [42], [47], [43], [45]] ([41] :: r) := fun w r' e z => by
  cases e
  simp at z
theorem ra_br {n : Nat} {t : Tr} {ts : List W} (h : RS n t ts) : RA (n + 1) t ([40] :: ts ++ [[41]]) := by
  refine ⟨by simp, nofun, fun m hm r => ?_⟩
  obtain ⟨m, rfl⟩ : ∃ k, m = k + 1 := ⟨m - 1, by omega⟩
  have e : sumN (m + 1) (ts ++ [41] :: r) = some (t, [41] :: r) := h.read m (by omega) _ (nh_close r)
  show pAtom (sumN (m + 1)) ([40] :: (ts ++ [[41]] ++ r)) = _
  unfold pAtom
  dsimp only
  rw [if_pos rfl, List.append_assoc]
  show (match sumN (m + 1) (ts ++ [41] :: r) with | some (t, [41] :: r') => some (t, r') | _ => none) = _
  rw [e]
  rfl
theorem ra_call {n : Nat} {w : W} {t : Tr} {ts : List W} (hw : isCall w = true) (h : RS n t ts) : RA (n + 1) (.call w t) (w :: [40] :: ts ++ [[41]]) := by
  obtain ⟨n1, n2, n3, n4, n5⟩ := call_ne hw
  refine ⟨fun z => ?_, nofun, fun m hm r => ?_⟩
  · have e' : w = [45] := by cases z; rfl
    rw [e'] at hw; exact absurd hw (by decide)
  obtain ⟨m, rfl⟩ : ∃ k, m = k + 1 := ⟨m - 1, by omega⟩
  have e : sumN (m + 1) (ts ++ [41] :: r) = some (t, [41] :: r) := h.read m (by omega) _ (nh_close r)
  show pAtom (sumN (m + 1)) (w :: [40] :: (ts ++ [[41]] ++ r)) = _
  unfold pAtom
  dsimp only
  rw [if_neg n1, if_pos ⟨hw, rfl⟩, List.append_assoc]
  show (match sumN (m + 1) (ts ++ [41] :: r) with | some (t, [41] :: r') => some (Tr.call w t, r') | _ => none) = _
  rw [e]
  rfl
theorem rw_pow {n : Nat} {t : Tr} {ts : List W} {d : Nat} (hd : d ≤ 9) (h : RA n t ts) : RW n (.pow t d) (ts ++ [[94], [48 + d]]) := by
  refine ⟨hd_app h.1 h.2.1, by simp, fun m hm r _ => ?_⟩
  unfold pPow
  rw [List.append_assoc, h.2.2 m hm]
  have e : dig (48 + d) = true := by unfold dig; simp; omega
  show (if ([94] : W) = [94] then _ else _) = _
  rw [if_pos rfl]
  simp [e]
theorem nh_op {o : Op} {l r : List W} (h : o.c :: [] ∉ l) : nhd l ([o.c] :: r) := fun w r' e z => by cases e; exact h z
theorem rp_op {n : Nat} {l u : Tr} {ts us : List W} {o : Op} (ho : o.low = false) (h : RP n l ts) (h2 : RW n u us) : RP n (.op o l u) (ts ++ [o.c] :: us) := by
  refine ⟨hd_app h.1 h.2.1, by simp, fun m hm r hr => ?_⟩
  obtain ⟨k, hk, e⟩ := h.2.2 m hm ([o.c] :: us ++ r) (nh_op (by cases o <;> revert ho <;> decide))
  obtain ⟨k, rfl⟩ : ∃ k', k = k' + 1 := ⟨k - 1, by simp at hk; omega⟩
  refine ⟨k, by simp at hk; omega, ?_⟩
  rw [List.append_assoc, e]
  have hh : highOp [o.c] = some o := by cases o <;> revert ho <;> decide
  show (match highOp [o.c] with | none => _ | some q => _) = _
  rw [hh]
  dsimp only
  rw [show pPow (sumN m) (us.append r) = _ from h2.2.2 m hm r hr]
theorem rs_op {n : Nat} {l u : Tr} {ts us : List W} {o : Op} (ho : o.low = true) (h : RS n l ts) (h2 : RP n u us) : RS n (.op o l u) (ts ++ [o.c] :: us) := by
  intro m hm r hr
  obtain ⟨k, hk, e⟩ := h m hm ([o.c] :: us ++ r) (nh_op (by cases o <;> revert ho <;> decide))
  obtain ⟨k, rfl⟩ : ∃ k', k = k' + 1 := ⟨k - 1, by simp at hk; omega⟩
  refine ⟨k, by simp at hk; omega, ?_⟩
  rw [List.append_assoc, e]
  have hh : lowOp [o.c] = some o := by cases o <;> revert ho <;> decide
  show (match lowOp [o.c] with | none => _ | some q => _) = _
  rw [hh]
  dsimp only
  rw [show pProd (sumN m) (us.append r) = _ from h2.read m hm r hr]
theorem rs_neg {n : Nat} {t : Tr} {ts : List W} (h : RP n t ts) : RS n (.neg t) ([45] :: ts) := fun m hm r hr => ⟨r.length, Nat.le_refl _, by
  unfold pSum
  simp only [List.cons_append, List.head?_cons, decide_true, if_true, List.tail_cons]
  rw [h.read m hm r hr]⟩
/-! ### writings -/
def Lv : Nat → Nat → Tr → List W → Prop
  | 4 => RA
  | 3 => RW
  | 2 => RP
  | _ => RS
def Wrt (t : Tr) (lv : Nat) (x : W) : Prop := ∃ ts n, Dw x ts ∧ Lv lv n t ts
theorem lv_mono {n m : Nat} {t : Tr} {ts : List W} (h : n ≤ m) : ∀ {lv}, Lv lv n t ts → Lv lv m t ts
  | 4, h1 => ⟨h1.1, h1.2.1, fun k hk => h1.2.2 k (by omega)⟩
  | 3, h1 => ⟨h1.1, h1.2.1, fun k hk => h1.2.2 k (by omega)⟩
  | 2, h1 => ⟨h1.1, h1.2.1, fun k hk => h1.2.2 k (by omega)⟩
  | 1, h1 => fun k hk => h1 k (by omega)
  | 0, h1 => fun k hk => h1 k (by omega)
  | _ + 5, h1 => fun k hk => h1 k (by omega)
theorem Wrt.d {t : Tr} {a b : Nat} {x : W} (h : Wrt t b x) (ha : 1 ≤ a) (hb : b ≤ 4) (hab : a ≤ b) : Wrt t a x := by
  obtain ⟨ts, n, h1, h2⟩ := h
  refine ⟨ts, n, h1, ?_⟩
  have h4 : b = 4 → RW n t ts := fun e => by subst e; exact RA.w h2
  have h3 : 3 ≤ b → RW n t ts := fun e => by
    rcases Nat.lt_or_ge b 4 with z | z
    · have : b = 3 := by omega
      subst this; exact h2
    · exact h4 (by omega)
  have h2' : 2 ≤ b → RP n t ts := fun e => by
    rcases Nat.lt_or_ge b 3 with z | z
    · have : b = 2 := by omega
      subst this; exact h2
    · exact (h3 z).p
  have h1' : RS n t ts := by
    rcases Nat.lt_or_ge b 2 with z | z
    · have : b = 1 := by omega
      subst this; exact h2
    · exact (h2' z).s
  have hc : a = 1 ∨ a = 2 ∨ a = 3 ∨ a = 4 := by omega
  rcases hc with rfl | rfl | rfl | rfl
  · exact h1'
  · exact h2' hab
  · exact h3 hab
  · have : b = 4 := by omega
    subst this; exact h2
theorem call_notNum {w : W} (h : isCall w = true) : figs w = false ∧ isName w = false ∧ w ≠ [] ∧ ∀ c ∈ w, nsg c = true := by
  have h' : w ∈ calls := of_decide_eq_true h
  unfold calls at h'
  simp only [List.mem_cons, List.mem_nil_iff, or_false] at h'
  rcases h' with rfl | rfl | rfl | rfl | rfl | rfl <;> decide
theorem wrt_num {w : W} (h : figs w = true) : Wrt (.num w) 4 w := by
  obtain ⟨a, b⟩ := figs_dig h
  have b' : ∀ c ∈ w, nsg c = true := fun c hc => dig_nsg (b c hc)
  refine ⟨[w], 0, dw_word a b', ra_word a b' ?_ (by rw [if_pos h])⟩
  cases e : isCall w with
  | false => rfl
  | true => rw [(call_notNum e).1] at h; cases h
theorem wrt_name {w : W} (h : isName w = true) : Wrt (.name w) 4 w := by
  obtain ⟨a, b⟩ := name_nsg h
  have hc : isCall w = false := by
    cases e : isCall w with
    | false => rfl
    | true => rw [(call_notNum e).2.1] at h; cases h
  have hf : figs w = false := by
    cases e : figs w with
    | false => rfl
    | true =>
      match w, h, e with
      | c :: r, h, e =>
        have hd := (figs_dig e).2 c List.mem_cons_self
        unfold isName at h
        simp only [Bool.and_eq_true] at h
        have hl := h.1.1.2
        unfold dig at hd
        unfold let_ at hl
        simp only [Bool.and_eq_true, decide_eq_true_eq] at hd hl
        omega
  exact ⟨[w], 0, dw_word a b, ra_word a b hc (by rw [hf, h]; rfl)⟩
theorem dw_br {x b b' : W} {ts : List W} (h : Dw x ts) (hb : blk b) (hb' : blk b') : Dw ([40] ++ b ++ x ++ b' ++ [41]) ([40] :: ts ++ [[41]]) := fun y ys hy hs => by
  have e1 : toks ([41] ++ y) = some ([41] :: ys) := toks_sgn (by decide) hy
  have e2 : toks (b' ++ ([41] ++ y)) = some ([41] :: ys) := (toks_blk hb').trans e1
  have e3 := h _ _ e2 (sep_blk hb' (sep_sgn (by decide)))
  have e4 : toks (b ++ (x ++ (b' ++ ([41] ++ y)))) = _ := (toks_blk hb).trans e3
  have e5 := toks_sgn (c := 40) (by decide) e4
  simpa [List.append_assoc] using e5
theorem wrt_br {t : Tr} {x b b' : W} (h : Wrt t 1 x) (hb : blk b) (hb' : blk b') : Wrt t 4 ([40] ++ b ++ x ++ b' ++ [41]) := by
  obtain ⟨ts, n, h1, h2⟩ := h
  exact ⟨_, n + 1, dw_br h1 hb hb', ra_br h2⟩
theorem wrt_call {t : Tr} {w x b b' b'' : W} (hw : isCall w = true) (h : Wrt t 1 x) (hb : blk b) (hb' : blk b') (hb'' : blk b'') : Wrt (.call w t) 4 (w ++ b ++ [40] ++ b' ++ x ++ b'' ++ [41]) := by
  obtain ⟨ts, n, h1, h2⟩ := h
  obtain ⟨_, _, c1, c2⟩ := call_notNum hw
  refine ⟨w :: [40] :: ts ++ [[41]], n + 1, fun y ys hy hs => ?_, ra_call hw h2⟩
  have e1 := dw_br h1 hb' hb'' y ys hy hs
  have e2 : toks (b ++ ([40] ++ b' ++ x ++ b'' ++ [41] ++ y)) = _ := (toks_blk hb).trans e1
  have e3 := dw_word c1 c2 _ _ e2 (sep_blk hb (by simpa using sep_sgn (by decide)))
  simpa [List.append_assoc] using e3
theorem wrt_pow {t : Tr} {x b b' : W} {d : Nat} (hd : d ≤ 9) (h : Wrt t 4 x) (hb : blk b) (hb' : blk b') : Wrt (.pow t d) 3 (x ++ b ++ [94] ++ b' ++ [48 + d]) := by
  obtain ⟨ts, n, h1, h2⟩ := h
  refine ⟨ts ++ [[94], [48 + d]], n, fun y ys hy hs => ?_, rw_pow hd h2⟩
  have e : dig (48 + d) = true := by unfold dig; simp; omega
  have e1 := dw_word (w := [48 + d]) nofun (fun c hc => by cases List.mem_singleton.mp hc; exact dig_nsg e) y ys hy hs
  have e2 : toks (b' ++ ([48 + d] ++ y)) = _ := (toks_blk hb').trans e1
  have e3 := toks_sgn (c := 94) (by decide) e2
  have e4 : toks (b ++ (94 :: (b' ++ ([48 + d] ++ y)))) = _ := (toks_blk hb).trans e3
  have e5 := h1 _ _ e4 (sep_blk hb (sep_sgn (by decide)))
  simpa [List.append_assoc] using e5
theorem wrt_neg {t : Tr} {x b : W} (h : Wrt t 2 x) (hb : blk b) : Wrt (.neg t) 1 ([45] ++ b ++ x) := by
  obtain ⟨ts, n, h1, h2⟩ := h
  refine ⟨[45] :: ts, n, fun y ys hy hs => ?_, rs_neg h2⟩
  have e1 : toks (b ++ (x ++ y)) = _ := (toks_blk hb).trans (h1 y ys hy hs)
  have e2 := toks_sgn (c := 45) (by decide) e1
  simpa [List.append_assoc] using e2
theorem dw_op {o : Op} {x y b b' : W} {ts us : List W} (h : Dw x ts) (h2 : Dw y us) (hb : blk b) (hb' : blk b') : Dw (x ++ b ++ [o.c] ++ b' ++ y) (ts ++ [o.c] :: us) := fun z zs hz hs => by
  have so : sgn o.c = true := by cases o <;> decide
  have e1 : toks (b' ++ (y ++ z)) = _ := (toks_blk hb').trans (h2 z zs hz hs)
  have e2 := toks_sgn so e1
  have e3 : toks (b ++ (o.c :: (b' ++ (y ++ z)))) = _ := (toks_blk hb).trans e2
  have e4 := h _ _ e3 (sep_blk hb (sep_sgn so))
  simpa [List.append_assoc] using e4
theorem wrt_high {o : Op} {l r : Tr} {x y b b' : W} (ho : o.low = false) (h : Wrt l 2 x) (h2 : Wrt r 3 y) (hb : blk b) (hb' : blk b') : Wrt (.op o l r) 2 (x ++ b ++ [o.c] ++ b' ++ y) := by
  obtain ⟨ts, n, h1, h3⟩ := h
  obtain ⟨us, m, h4, h5⟩ := h2
  exact ⟨_, max n m, dw_op h1 h4 hb hb', rp_op ho (lv_mono (lv := 2) (Nat.le_max_left _ _) h3) (lv_mono (lv := 3) (Nat.le_max_right _ _) h5)⟩
theorem wrt_low {o : Op} {l r : Tr} {x y b b' : W} (ho : o.low = true) (h : Wrt l 1 x) (h2 : Wrt r 2 y) (hb : blk b) (hb' : blk b') : Wrt (.op o l r) 1 (x ++ b ++ [o.c] ++ b' ++ y) := by
  obtain ⟨ts, n, h1, h3⟩ := h
  obtain ⟨us, m, h4, h5⟩ := h2
  exact ⟨_, max n m, dw_op h1 h4 hb hb', rs_op ho (lv_mono (lv := 1) (Nat.le_max_left _ _) h3) (lv_mono (lv := 2) (Nat.le_max_right _ _) h5)⟩
theorem wrt_read {t : Tr} {x b b' : W} (h : Wrt t 1 x) (hb : blk b) (hb' : blk b') : read (b ++ x ++ b') = some t := by
  obtain ⟨ts, n, h1, h2⟩ := h
  have e1 : toks b' = some [] := by have := toks_blk (y := []) hb'; simpa [toks] using this
  have e2 := h1 b' [] e1 (by have := sep_blk (y := []) hb' (fun _ _ e => nomatch e); simpa using this)
  have e3 : toks (b ++ (x ++ b')) = some (ts ++ []) := (toks_blk hb).trans e2
  unfold read
  rw [List.append_assoc, e3, List.append_nil, Option.bind_some]
  let m := max n (mx ts).toNat
  have hm : mx ts < ((m + 1 : Nat) : Int) := by have := mx_pos ts; omega
  rw [run_parse (m + 1) ts hm]
  unfold parse
  have := RS.read (show RS n t ts from h2) m (Nat.le_max_left _ _) [] (fun _ _ e => nomatch e)
  rw [List.append_nil] at this
  show (match pSum (sumN m) ts with | some (t, []) => some t | _ => none) = _
  rw [this]
/-! ### the writer -/
theorem wr_rank : ∀ t, (wr t).2 ≤ 3
  | .num s => Nat.le_refl _
  | .name s => Nat.le_refl _
  | .call s t => Nat.le_refl _
  | .neg t => Nat.zero_le _
  | .pow t d => by show 2 ≤ 3; decide
  | .op o l r => by show o.rank ≤ 3; cases o <;> decide
theorem blk_nil : blk [] := fun _ h => nomatch h
theorem blk_one : blk [32] := fun c h => List.mem_singleton.mp h
theorem wrt_brk {t : Tr} (h : Wrt t ((wr t).2 + 1) (wr t).1) (k : Nat) (hk : k ≤ 3) : Wrt t (k + 1) (brk (wr t) k) := by
  have hr := wr_rank t
  unfold brk
  split
  · next hlt => exact (by simpa using wrt_br (h.d (a := 1) (by omega) (by omega) (by omega)) blk_nil blk_nil : Wrt t 4 _).d (by omega) (by omega) (by omega)
  · next hlt => exact h.d (by omega) (by omega) (by omega)
theorem wrt_wr : ∀ {t : Tr}, ok t → Wrt t ((wr t).2 + 1) (wr t).1
  | .num s, h => wrt_num h
  | .name s, h => wrt_name h
  | .call s t, h => by
    have ih := wrt_wr h.2
    have hr := wr_rank t
    have z := wrt_call h.1 (ih.d (a := 1) (by omega) (by omega) (by omega)) blk_nil blk_nil blk_nil
    simpa [wr] using z
  | .neg t, h => by
    have ih := wrt_brk (wrt_wr (t := t) h) 1 (by omega)
    have z := wrt_neg ih blk_nil
    simpa [wr] using z
  | .pow t d, h => by
    have ih := wrt_brk (wrt_wr h.1) 3 (by omega)
    have z := wrt_pow h.2 ih blk_nil blk_nil
    simpa [wr] using z
  | .op o l r, h => by
    have i1 := wrt_wr h.1
    have i2 := wrt_wr h.2
    cases o with
    | add =>
      have z := wrt_low (o := .add) rfl (wrt_brk i1 0 (by omega)) (wrt_brk i2 1 (by omega)) blk_one blk_one
      simpa [wr, Op.c, Op.rank, Op.mark] using z
    | sub =>
      have z := wrt_low (o := .sub) rfl (wrt_brk i1 0 (by omega)) (wrt_brk i2 1 (by omega)) blk_one blk_one
      simpa [wr, Op.c, Op.rank, Op.mark] using z
    | mul =>
      have z := wrt_high (o := .mul) rfl (wrt_brk i1 1 (by omega)) (wrt_brk i2 2 (by omega)) blk_nil blk_nil
      simpa [wr, Op.c, Op.rank, Op.mark] using z
    | div =>
      have z := wrt_high (o := .div) rfl (wrt_brk i1 1 (by omega)) (wrt_brk i2 2 (by omega)) blk_nil blk_nil
      simpa [wr, Op.c, Op.rank, Op.mark] using z
theorem read_txt {t : Tr} (h : ok t) : read (txt t) = some t := by
  have hr := wr_rank t
  have := wrt_read (t := t) (x := (wr t).1) ((wrt_wr h).d (by omega) (by omega) (by omega)) blk_nil blk_nil
  simpa [txt] using this
end Pl

set_option linter.all false
/-! # What a read text consists of; bounds -/
namespace Pl
inductive Gr : Nat → Tr → List W → Prop
  | num {w} (h : figs w = true) : Gr 4 (.num w) [w]
  | name {w} (h : isName w = true) : Gr 4 (.name w) [w]
  | br {t c} (h : Gr 1 t c) : Gr 4 t ([40] :: c ++ [[41]])
  | call {w t c} (hw : isCall w = true) (h : Gr 1 t c) : Gr 4 (.call w t) (w :: [40] :: c ++ [[41]])
  | pow {t c d} (hd : dig d = true) (h : Gr 4 t c) : Gr 3 (.pow t (d - 48)) (c ++ [[94], [d]])
  | high {o l r c c'} (ho : o.low = false) (h : Gr 2 l c) (h2 : Gr 3 r c') : Gr 2 (.op o l r) (c ++ [o.c] :: c')
  | low {o l r c c'} (ho : o.low = true) (h : Gr 1 l c) (h2 : Gr 2 r c') : Gr 1 (.op o l r) (c ++ [o.c] :: c')
  | neg {t c} (h : Gr 2 t c) : Gr 1 (.neg t) ([45] :: c)
  | up {k t c} (h : Gr (k + 1) t c) (h0 : 1 ≤ k) : Gr k t c
def Cuts (k : Nat) (f : Pa) : Prop := ∀ ts t r, f ts = some (t, r) → ∃ c, ts = c ++ r ∧ Gr k t c
theorem cuts_atom {s : Pa} (h : Cuts 1 s) : Cuts 4 (pAtom s) := by
  intro ts t r hy
  match ts, hy with
  | w :: r0, hy =>
    unfold pAtom at hy
    dsimp only at hy
    split at hy
    · next hw =>
      subst hw
      split at hy
      · next t1 r1 e =>
        cases hy
        obtain ⟨c, e1, e2⟩ := h _ _ _ e
        exact ⟨[40] :: c ++ [[41]], by rw [e1]; simp, .br e2⟩
      · cases hy
    split at hy
    · next hk =>
      obtain ⟨hk1, hk2⟩ := hk
      match r0, hk2, hy with
      | a :: r2, hk2, hy =>
        cases hk2
        split at hy
        · next t1 r1 e =>
          cases hy
          obtain ⟨c, e1, e2⟩ := h _ _ _ e
          exact ⟨w :: [40] :: c ++ [[41]], by rw [List.tail_cons] at e1; rw [e1]; simp, .call hk1 e2⟩
        · cases hy
    split at hy
    · next hf => cases hy; exact ⟨[w], rfl, .num hf⟩
    split at hy
    · next hn => cases hy; exact ⟨[w], rfl, .name hn⟩
    · cases hy
theorem cuts_pow {s : Pa} (h : Cuts 1 s) : Cuts 3 (pPow s) := by
  intro ts t r hy
  unfold pPow at hy
  split at hy
  · cases hy
  · next t0 w r0 e =>
    obtain ⟨c, e1, e2⟩ := cuts_atom h _ _ _ e
    split at hy
    · next hw =>
      subst hw
      split at hy
      · next d r1 =>
        split at hy
        · next hd => cases hy; exact ⟨c ++ [[94], [d]], by rw [e1]; simp, .pow hd e2⟩
        · cases hy
      · cases hy
    · cases hy; exact ⟨c, e1, .up e2 (by decide)⟩
  · next t0 e =>
    obtain ⟨c, e1, e2⟩ := cuts_atom h _ _ _ e
    cases hy
    exact ⟨c, e1, .up e2 (by decide)⟩
theorem cuts_chain {hit : W → Option Op} {f : Pa} {k : Nat} (hf : Cuts (k + 1) f) (mk : ∀ o w l r c c', hit w = some o → Gr k l c → Gr (k + 1) r c' → Gr k (.op o l r) (c ++ w :: c')) :
    ∀ n t ts t' r c0, Gr k t c0 → chain hit f n t ts = some (t', r) → ∃ c, c0 ++ ts = c ++ r ∧ Gr k t' c
  | 0, t, ts, t', r, c0, h, hy => by cases hy; exact ⟨c0, rfl, h⟩
  | n + 1, t, [], t', r, c0, h, hy => by cases hy; exact ⟨c0, rfl, h⟩
  | n + 1, t, w :: r0, t', r, c0, h, hy => by
    unfold chain at hy
    dsimp only at hy
    split at hy
    · cases hy; exact ⟨c0, rfl, h⟩
    · next o eo =>
      split at hy
      · cases hy
      · next u r1 e =>
        obtain ⟨c1, e1, e2⟩ := hf _ _ _ e
        obtain ⟨c, e3, e4⟩ := cuts_chain hf mk n (.op o t u) r1 t' r (c0 ++ w :: c1) (mk o w t u c0 c1 eo h e2) hy
        exact ⟨c, by rw [e1, ← e3]; simp, e4⟩
theorem cuts_prod {s : Pa} (h : Cuts 1 s) : Cuts 2 (pProd s) := by
  intro ts t r hy
  unfold pProd at hy
  split at hy
  · cases hy
  · next t0 r0 e =>
    obtain ⟨c0, e1, e2⟩ := cuts_pow h _ _ _ e
    obtain ⟨c, e3, e4⟩ := cuts_chain (cuts_pow h) (fun o w l r c c' ho hl hr => by
      have hz : w = [o.c] := op_of (high_hit ho).1
      have hlow : o.low = false := by
        have := (high_hit ho).2
        cases o <;> revert this <;> decide
      rw [hz]; exact .high hlow hl hr) _ _ _ _ _ c0 (.up e2 (by decide)) hy
    exact ⟨c, by rw [e1, e3], e4⟩
theorem cuts_sum {s : Pa} (h : Cuts 1 s) : Cuts 1 (pSum s) := by
  intro ts t r hy
  have mk : ∀ o w l r c c', lowOp w = some o → Gr 1 l c → Gr (1 + 1) r c' → Gr 1 (.op o l r) (c ++ w :: c') := fun o w l r c c' ho hl hr => by
    have hz : w = [o.c] := op_of (low_hit ho).1
    have hlow : o.low = true := by
      have := (low_hit ho).2
      cases o <;> revert this <;> decide
    rw [hz]; exact .low hlow hl hr
  unfold pSum at hy
  by_cases hh : ts.head? = some [45]
  · obtain ⟨r0, rfl⟩ : ∃ r0, ts = [45] :: r0 := by
      cases ts with
      | nil => cases hh
      | cons a r0 => exact ⟨r0, by cases hh; rfl⟩
    simp only [List.head?_cons, decide_true, if_true, List.tail_cons] at hy
    split at hy
    · cases hy
    · next t0 r1 e =>
      obtain ⟨c0, e1, e2⟩ := cuts_prod h _ _ _ e
      obtain ⟨c, e3, e4⟩ := cuts_chain (cuts_prod h) mk _ _ _ _ _ ([45] :: c0) (.neg e2) hy
      exact ⟨c, by rw [e1, ← e3]; simp, e4⟩
  · have hd : decide (ts.head? = some [45]) = false := decide_eq_false hh
    simp only [hd, Bool.false_eq_true, if_false] at hy
    split at hy
    · cases hy
    · next t0 r1 e =>
      obtain ⟨c0, e1, e2⟩ := cuts_prod h _ _ _ e
      obtain ⟨c, e3, e4⟩ := cuts_chain (cuts_prod h) mk _ _ _ _ _ c0 (.up e2 (by decide)) hy
      exact ⟨c, by rw [e1, e3], e4⟩
theorem cuts_sumN : ∀ n, Cuts 1 (sumN n)
  | 0 => fun ts t r h => nomatch h
  | n + 1 => cuts_sum (cuts_sumN n)
theorem gr_of_read {x : W} {t : Tr} (h : read x = some t) : ∃ ts, toks x = some ts ∧ Gr 1 t ts := by
  unfold read at h
  cases e : toks x with
  | none => rw [e] at h; cases h
  | some ts =>
    rw [e, Option.bind_some] at h
    have hm : mx ts < (((mx ts).toNat + 1 : Nat) : Int) := by have := mx_pos ts; omega
    rw [run_parse _ ts hm] at h
    unfold parse at h
    split at h
    · next t0 e0 =>
      cases h
      obtain ⟨c, e1, e2⟩ := cuts_sumN _ _ _ _ e0
      rw [List.append_nil] at e1
      subst e1
      exact ⟨_, rfl, e2⟩
    · cases h
theorem gr_ok : ∀ {k t c}, Gr k t c → ok t := by
  intro k t c h
  induction h with
  | num h => exact h
  | name h => exact h
  | br h ih => exact ih
  | call hw h ih => exact ⟨hw, ih⟩
  | pow hd h ih =>
    refine ⟨ih, ?_⟩
    unfold dig at hd
    simp only [Bool.and_eq_true, decide_eq_true_eq] at hd
    omega
  | high ho h h2 i1 i2 => exact ⟨i1, i2⟩
  | low ho h h2 i1 i2 => exact ⟨i1, i2⟩
  | neg h ih => exact ih
  | up h h0 ih => exact ih
theorem read_ok {x : W} {t : Tr} (h : read x = some t) : ok t := by
  obtain ⟨ts, _, h2⟩ := gr_of_read h
  exact gr_ok h2
/-! ### size -/
def opc (c : Nat) : Bool := decide (c ∈ [43, 45, 42, 47, 94])
/-- words that are no brackets, by their first signs -/
def cnt (p : Bool) : W → Nat
  | [] => 0
  | c :: r => (if nsg c then (if p then 0 else 1) else if opc c then 1 else 0) + cnt (nsg c) r
def nbr (w : W) : Nat := if w = [40] ∨ w = [41] then 0 else 1
def tsz : List W → Nat
  | [] => 0
  | w :: r => nbr w + tsz r
theorem tsz_c (w : W) (r : List W) : tsz (w :: r) = nbr w + tsz r := rfl
theorem cnt_c (p : Bool) (c : Nat) (r : W) : cnt p (c :: r) = (if nsg c then (if p then 0 else 1) else if opc c then 1 else 0) + cnt (nsg c) r := rfl
theorem tsz_app : ∀ (a b : List W), tsz (a ++ b) = tsz a + tsz b
  | [], b => by simp [tsz]
  | w :: a, b => by rw [List.cons_append, tsz_c, tsz_c, tsz_app a b]; omega
theorem nbr_word {w : W} (h : ∀ c ∈ w, nsg c = true) : nbr w = 1 := by
  unfold nbr
  rw [if_neg]
  rintro (e | e) <;> (rw [e] at h; exact absurd (h _ List.mem_cons_self) (by decide))
theorem gr_size : ∀ {k t c}, Gr k t c → size t = tsz c := by
  intro k t c h
  induction h with
  | num h => rw [tsz, nbr_word (fun c hc => dig_nsg ((figs_dig h).2 c hc))]; rfl
  | name h => rw [tsz, nbr_word (name_nsg h).2]; rfl
  | br h ih => simp [tsz, tsz_app, nbr, ih]
  | call hw h ih => rw [List.cons_append, tsz, nbr_word (call_notNum hw).2.2.2]; simp [tsz, tsz_app, nbr, ih, size]; omega
  | @pow t c d hd h ih =>
    have : nbr [d] = 1 := nbr_word fun e he => by cases List.mem_singleton.mp he; exact dig_nsg hd
    rw [tsz_app]; simp [tsz, this, ih, size]; rfl
  | @high o l r c c' ho h h2 i1 i2 => rw [tsz_app, tsz_c, show nbr [o.c] = 1 by cases o <;> rfl, size, i1, i2]; omega
  | @low o l r c c' ho h h2 i1 i2 => rw [tsz_app, tsz_c, show nbr [o.c] = 1 by cases o <;> rfl, size, i1, i2]; omega
  | neg h ih => rw [tsz_c, size, ih]; have : nbr [45] = 1 := rfl; omega
  | up h h0 ih => exact ih
theorem toks_cases {c : Nat} {r : W} {ts : List W} (h : toks (c :: r) = some ts) : ∃ us, toks r = some us ∧ ((nsg c = true ∧ ((∃ d r' t u', r = d :: r' ∧ nsg d = true ∧ us = t :: u' ∧ ts = (c :: t) :: u') ∨ ((∀ d r', r = d :: r' → nsg d = false ∨ us = []) ∧ ts = [c] :: us))) ∨ (nsg c = false ∧ sgn c = true ∧ ts = [c] :: us) ∨ (nsg c = false ∧ c = 32 ∧ ts = us)) := by
  unfold toks at h
  cases e : toks r with
  | none => rw [e] at h; cases h
  | some us =>
    rw [e, Option.bind_some] at h
    refine ⟨us, rfl, ?_⟩
    split at h
    · next hn =>
      refine .inl ⟨hn, ?_⟩
      split at h
      · next d r' t u' =>
        split at h
        · next hd => cases h; exact .inl ⟨d, r', t, u', rfl, hd, rfl, rfl⟩
        · next hd => cases h; exact .inr ⟨fun d2 r2 e2 => by cases e2; left; simpa using hd, rfl⟩
      · next hx =>
        cases h
        refine .inr ⟨fun d r' e2 => ?_, rfl⟩
        right
        cases us with
        | nil => rfl
        | cons t u' => exact (hx d r' t u' e2 rfl).elim
    · next hn =>
      have hn' : nsg c = false := by simpa using hn
      split at h
      · next hs => cases h; exact .inr (.inl ⟨hn', hs, rfl⟩)
      split at h
      · next hb => cases h; exact .inr (.inr ⟨hn', hb, rfl⟩)
      · cases h
theorem toks_first {d : Nat} {r : W} {us : List W} (h : toks (d :: r) = some us) (hd : nsg d = true) : ∃ t u', us = t :: u' ∧ (∀ e ∈ t, nsg e = true) ∧ t ≠ [] := by
  induction r generalizing d us with
  | nil =>
    obtain ⟨vs, e1, e2⟩ := toks_cases h
    rcases e2 with ⟨_, ⟨d', r', t, u', e3, _⟩ | ⟨_, e4⟩⟩ | ⟨hn, _⟩ | ⟨hn, _⟩
    · cases e3
    · exact ⟨[d], vs, e4, fun e he => by cases List.mem_singleton.mp he; exact hd, nofun⟩
    · rw [hd] at hn; cases hn
    · rw [hd] at hn; cases hn
  | cons d2 r ih =>
    obtain ⟨vs, e1, e2⟩ := toks_cases h
    rcases e2 with ⟨_, ⟨d', r', t, u', e3, e5, e6, e7⟩ | ⟨_, e4⟩⟩ | ⟨hn, _⟩ | ⟨hn, _⟩
    · cases e3
      obtain ⟨t2, u2, e8, e9, _⟩ := ih e1 e5
      rw [e6] at e8
      cases e8
      exact ⟨d :: t, u', e7, fun e he => (List.mem_cons.mp he).elim (fun z => z ▸ hd) (e9 e), nofun⟩
    · exact ⟨[d], vs, e4, fun e he => by cases List.mem_singleton.mp he; exact hd, nofun⟩
    · rw [hd] at hn; cases hn
    · rw [hd] at hn; cases hn
theorem sgn_nbr {c : Nat} (h : sgn c = true) : nbr [c] = if opc c then 1 else 0 := by
  unfold sgn at h
  have h := of_decide_eq_true h
  simp only [List.mem_cons, List.mem_nil_iff, or_false] at h
  rcases h with rfl | rfl | rfl | rfl | rfl | rfl | rfl <;> decide
theorem toks_cnt : ∀ {x : W} {ts : List W}, toks x = some ts → tsz ts = cnt false x
  | [], ts, h => by cases h; rfl
  | c :: r, ts, h => by
    obtain ⟨us, e1, e2⟩ := toks_cases h
    have ih := toks_cnt e1
    rcases e2 with ⟨hn, e2⟩ | ⟨hn, hs, e2⟩ | ⟨hn, hb, e2⟩
    · have hc : cnt false (c :: r) = 1 + cnt true r := by rw [cnt_c, hn]; rfl
      rcases e2 with ⟨d, r', t, u', rfl, hd, rfl, rfl⟩ | ⟨e2, rfl⟩
      · obtain ⟨t2, u2, e8, e9, e10⟩ := toks_first e1 hd
        cases e8
        rw [hc]
        have h1 : cnt true (d :: r') + 1 = cnt false (d :: r') := by simp [cnt, hd]; omega
        have h2 : nbr (c :: t) = 1 := nbr_word fun e he => (List.mem_cons.mp he).elim (fun z => z ▸ hn) (e9 e)
        have h3 : nbr t = 1 := nbr_word e9
        rw [tsz_c] at ih ⊢
        rw [h2]; rw [h3] at ih; omega
      · rw [hc]
        have h2 : nbr [c] = 1 := nbr_word fun e he => by cases List.mem_singleton.mp he; exact hn
        rw [tsz_c, h2, ih]
        cases r with
        | nil => rfl
        | cons d r' =>
          rcases e2 d r' rfl with z | z
          · simp [cnt, z]
          · subst z
            cases hd : nsg d with
            | false => simp [cnt, hd]
            | true =>
              obtain ⟨t2, u2, e8, _⟩ := toks_first e1 hd
              cases e8
    · rw [e2]
      have hc : cnt false (c :: r) = (if opc c then 1 else 0) + cnt false r := by rw [cnt_c, hn]; rfl
      rw [tsz_c, hc, sgn_nbr hs, ih]
    · rw [e2, ih]
      subst hb
      rw [cnt_c, hn, show opc 32 = false by decide]
      simp
theorem read_size {x : W} {t : Tr} (h : read x = some t) : size t = cnt false x := by
  obtain ⟨ts, h1, h2⟩ := gr_of_read h
  rw [gr_size h2, toks_cnt h1]
/-- whether the last sign is a word's -/
def lst (p : Bool) (a : W) : Bool := match a.getLast? with | some c => nsg c | none => p
theorem cnt_app : ∀ (a b : W) (p : Bool), ∃ q, cnt p (a ++ b) = cnt p a + cnt q b
  | [], b, p => ⟨p, by simp [cnt]⟩
  | c :: a, b, p => by
    obtain ⟨q, e⟩ := cnt_app a b (nsg c)
    refine ⟨q, ?_⟩
    rw [List.cons_append]
    simp only [cnt, e]
    omega
theorem cnt_b (b : W) : cnt true b ≤ cnt false b ∧ cnt false b ≤ cnt true b + 1 := by
  cases b with
  | nil => exact ⟨Nat.le_refl _, Nat.le_succ _⟩
  | cons c r =>
    simp only [cnt]
    cases nsg c <;> simp <;> omega
theorem cnt_q (q : Bool) (b : W) : cnt true b ≤ cnt q b ∧ cnt q b ≤ cnt true b + 1 := by
  cases q
  · exact cnt_b b
  · exact ⟨Nat.le_refl _, Nat.le_succ _⟩
theorem cnt_f (q : Bool) (b : W) : cnt q b ≤ cnt false b := by
  cases q
  · exact Nat.le_refl _
  · exact (cnt_b b).1
theorem cnt_bent (a r b s : W) : cnt false (a ++ s ++ b) ≤ cnt false (a ++ r ++ b) + cnt false s + 1 := by
  obtain ⟨q1, e1⟩ := cnt_app (a ++ s) b false
  obtain ⟨q2, e2⟩ := cnt_app a s false
  obtain ⟨q3, e3⟩ := cnt_app (a ++ r) b false
  obtain ⟨q4, e4⟩ := cnt_app a r false
  have h1 := cnt_q q1 b
  have h2 := cnt_f q2 s
  have h3 := cnt_q q3 b
  omega
/-! ### runs of digits -/
def dg (k : Nat) : W → Nat
  | [] => k
  | c :: r => if dig c then dg (k + 1) r else max k (dg 0 r)
theorem dg_k : ∀ (x : W) (k : Nat), k ≤ dg k x ∧ dg 0 x ≤ dg k x ∧ dg k x ≤ k + dg 0 x
  | [], k => by simp [dg]
  | c :: r, k => by
    simp only [dg]
    have h1 := dg_k r (k + 1)
    have h2 := dg_k r (0 + 1)
    split
    · next hc =>
      obtain ⟨a1, a2, a3⟩ := h1
      obtain ⟨b1, b2, b3⟩ := h2
      refine ⟨by omega, ?_, ?_⟩
      · -- dg 1 r ≤ dg (k+1) r
        have : ∀ (x : W) (i j : Nat), i ≤ j → dg i x ≤ dg j x := by
          intro x
          induction x with
          | nil => intro i j h; exact h
          | cons c r ih => intro i j h; simp only [dg]; split; exact ih _ _ (by omega); omega
        exact this r _ _ (by omega)
      · have : ∀ (x : W) (i j : Nat), dg (i + j) x ≤ i + dg j x := by
          intro x
          induction x with
          | nil => intro i j; exact Nat.le_refl _
          | cons c r ih => intro i j; simp only [dg]; split; exact ih i (j + 1); omega
        exact this r k (0 + 1)
    · omega
theorem dg_app : ∀ (a b : W) (k : Nat), dg k (a ++ b) ≤ dg k a + dg 0 b ∧ dg k a ≤ dg k (a ++ b) ∧ dg 0 b ≤ dg k (a ++ b)
  | [], b, k => by
    have := dg_k b k
    simp only [List.nil_append, dg]
    omega
  | c :: a, b, k => by
    rw [List.cons_append]
    simp only [dg]
    split
    · exact dg_app a b (k + 1)
    · have := dg_app a b 0
      omega
theorem dg_bent (a r b s : W) : dg 0 (a ++ s ++ b) ≤ 2 * dg 0 (a ++ r ++ b) + dg 0 s := by
  have h1 := dg_app (a ++ s) b 0
  have h2 := dg_app a s 0
  have h3 := dg_app (a ++ r) b 0
  have h4 := dg_app a r 0
  omega
theorem toks_dg : ∀ {x : W} {ts : List W} (k : Nat), toks x = some ts → (∀ t ∈ ts, (∀ c ∈ t, dig c = true) → t.length ≤ dg k x) ∧ (∀ d r t u, x = d :: r → nsg d = true → ts = t :: u → (∀ c ∈ t, dig c = true) → k + t.length ≤ dg k x)
  | [], ts, k, h => by cases h; exact ⟨fun t ht => (nomatch ht), fun d r t u e => (nomatch e)⟩
  | c :: r, ts, k, h => by
    obtain ⟨us, e1, e2⟩ := toks_cases h
    have tl : ∀ t ∈ us, (∀ c ∈ t, dig c = true) → t.length ≤ dg k (c :: r) := fun t ht hd => by
      have h0 := (toks_dg 0 e1).1 t ht hd
      have h1 := dg_k r (k + 1)
      simp only [dg]
      split <;> omega
    rcases e2 with ⟨hn, e2⟩ | ⟨hn, hs, e2⟩ | ⟨hn, hb, e2⟩
    · rcases e2 with ⟨d, r', t, u', rfl, hd, rfl, rfl⟩ | ⟨e2, rfl⟩
      · have hh : (∀ e ∈ c :: t, dig e = true) → k + (c :: t).length ≤ dg k (c :: d :: r') := fun hz => by
          have hc : dig c = true := hz c List.mem_cons_self
          have := (toks_dg (k + 1) e1).2 d r' t u' rfl hd rfl fun e he => hz e (List.mem_cons_of_mem _ he)
          rw [dg, if_pos hc, List.length_cons]; omega
        refine ⟨fun t2 ht hd2 => ?_, fun d2 r2 t2 u2 _ _ e3 hd2 => by cases e3; exact hh hd2⟩
        rcases List.mem_cons.mp ht with rfl | ht
        · have := hh hd2; omega
        · exact tl t2 (List.mem_cons_of_mem _ ht) hd2
      · have hh : dig c = true → k + 1 ≤ dg k (c :: r) := fun hc => by
          rw [dg, if_pos hc]; exact (dg_k r (k + 1)).1
        refine ⟨fun t2 ht hd2 => ?_, fun d2 r2 t2 u2 _ _ e3 hd2 => by cases e3; exact hh (hd2 c List.mem_cons_self)⟩
        rcases List.mem_cons.mp ht with rfl | ht
        · have := hh (hd2 c List.mem_cons_self); simp; omega
        · exact tl t2 ht hd2
    · subst e2
      refine ⟨fun t2 ht hd2 => ?_, fun d2 r2 t2 u2 e3 hd' => by cases e3; rw [hn] at hd'; cases hd'⟩
      rcases List.mem_cons.mp ht with rfl | ht
      · have := dig_nsg (hd2 c List.mem_cons_self)
        rw [hn] at this; cases this
      · exact tl t2 ht hd2
    · subst e2
      exact ⟨tl, fun d2 r2 t2 u2 e3 hd' => by cases e3; rw [hn] at hd'; cases hd'⟩
theorem gr_digs : ∀ {k t c}, Gr k t c → ∀ B, (∀ w ∈ c, (∀ e ∈ w, dig e = true) → w.length ≤ B) → digs t ≤ B := by
  intro k t c h
  induction h with
  | num h => exact fun B hb => hb _ List.mem_cons_self (figs_dig h).2
  | name h => exact fun B hb => Nat.zero_le _
  | br h ih => exact fun B hb => ih B fun w hw => hb w (List.mem_append.mpr (.inl (List.mem_cons_of_mem _ hw)))
  | call hw h ih => exact fun B hb => ih B fun w hw => hb w (List.mem_append.mpr (.inl (List.mem_cons_of_mem _ (List.mem_cons_of_mem _ hw))))
  | pow hd h ih => exact fun B hb => ih B fun w hw => hb w (List.mem_append.mpr (.inl hw))
  | high ho h h2 i1 i2 => exact fun B hb => Nat.max_le.mpr ⟨i1 B fun w hw => hb w (List.mem_append.mpr (.inl hw)), i2 B fun w hw => hb w (List.mem_append.mpr (.inr (List.mem_cons_of_mem _ hw)))⟩
  | low ho h h2 i1 i2 => exact fun B hb => Nat.max_le.mpr ⟨i1 B fun w hw => hb w (List.mem_append.mpr (.inl hw)), i2 B fun w hw => hb w (List.mem_append.mpr (.inr (List.mem_cons_of_mem _ hw)))⟩
  | neg h ih => exact fun B hb => ih B fun w hw => hb w (List.mem_cons_of_mem _ hw)
  | up h h0 ih => exact ih
theorem read_digs {x : W} {t : Tr} (h : read x = some t) : digs t ≤ dg 0 x := by
  obtain ⟨ts, h1, h2⟩ := gr_of_read h
  exact gr_digs h2 _ (toks_dg 0 h1).1
end Pl

set_option linter.all false
/-! # How deep brackets stand -/
namespace Pl
def bdk (b : Nat) (r k : Nat) : Nat := b + if r < k then 1 else 0
/-- the depth of the written text -/
def bd : Tr → Nat
  | .num _ => 0
  | .name _ => 0
  | .call _ t => bd t + 1
  | .neg t => bdk (bd t) (wr t).2 1
  | .pow t _ => bdk (bd t) (wr t).2 3
  | .op o l r => max (bdk (bd l) (wr l).2 o.rank) (bdk (bd r) (wr r).2 (o.rank + 1))
theorem go_word : ∀ {w : W} (d m : Int) (y : W), (∀ c ∈ w, nsg c = true) → depthGo d m (w ++ y) = depthGo d m y
  | [], d, m, y, _ => rfl
  | c :: w, d, m, y, h => by
    have hc := nsg_ne (h c List.mem_cons_self)
    rw [List.cons_append]
    show (if c = 40 then _ else if c = 41 then _ else depthGo d m (w ++ y)) = _
    rw [if_neg hc.1, if_neg hc.2.1]
    exact go_word d m y fun e he => h e (List.mem_cons_of_mem _ he)
theorem go_flat : ∀ {w : W} (d m : Int) (y : W), (∀ c ∈ w, c ≠ 40 ∧ c ≠ 41) → depthGo d m (w ++ y) = depthGo d m y
  | [], d, m, y, _ => rfl
  | c :: w, d, m, y, h => by
    have hc := h c List.mem_cons_self
    rw [List.cons_append]
    show (if c = 40 then _ else if c = 41 then _ else depthGo d m (w ++ y)) = _
    rw [if_neg hc.1, if_neg hc.2]
    exact go_flat d m y fun e he => h e (List.mem_cons_of_mem _ he)
theorem go_open (d m : Int) (y : W) (h : d ≤ m) : depthGo d m (40 :: y) = depthGo (d + 1) (max m (d + 1)) y := by
  show (if (40 : Nat) = 40 then depthGo (d + 1) (if d + 1 > m then d + 1 else m) y else _) = _
  rw [if_pos rfl]
  congr 1
  split <;> omega
theorem go_close (d m : Int) (y : W) : depthGo d m (41 :: y) = depthGo (d - 1) m y := rfl
theorem mark_flat (o : Op) : ∀ c ∈ o.mark, c ≠ 40 ∧ c ≠ 41 := by cases o <;> decide
theorem go_brk {t : Tr} (h : ∀ d m y, d ≤ m → depthGo d m ((wr t).1 ++ y) = depthGo d (max m (d + bd t)) y) (k : Nat) (d m : Int) (y : W) (hm : d ≤ m) : depthGo d m (brk (wr t) k ++ y) = depthGo d (max m (d + bdk (bd t) (wr t).2 k)) y := by
  unfold brk bdk
  split
  · rw [List.append_assoc, List.append_assoc, show [40] ++ ((wr t).1 ++ ([41] ++ y)) = 40 :: ((wr t).1 ++ (41 :: y)) from rfl, go_open _ _ _ hm, h _ _ _ (by omega), go_close]
    congr 1
    · omega
    · omega
  · rw [h _ _ _ hm]; congr 1
theorem go_wr : ∀ {t : Tr}, ok t → ∀ d m y, d ≤ m → depthGo d m ((wr t).1 ++ y) = depthGo d (max m (d + bd t)) y
  | .num s, h, d, m, y, hm => by
    rw [show (wr (.num s)).1 = s from rfl, go_word d m y fun c hc => dig_nsg ((figs_dig h).2 c hc)]
    congr 1; show m = max m (d + (0 : Nat)); omega
  | .name s, h, d, m, y, hm => by
    rw [show (wr (.name s)).1 = s from rfl, go_word d m y (name_nsg h).2]
    congr 1; show m = max m (d + (0 : Nat)); omega
  | .call s t, h, d, m, y, hm => by
    have ih := go_wr h.2
    rw [show (wr (.call s t)).1 = s ++ [40] ++ (wr t).1 ++ [41] from rfl, List.append_assoc, List.append_assoc, List.append_assoc, go_word d m _ (call_notNum h.1).2.2.2]
    rw [show [40] ++ ((wr t).1 ++ ([41] ++ y)) = 40 :: ((wr t).1 ++ (41 :: y)) from rfl, go_open _ _ _ hm, ih _ _ _ (by omega), go_close]
    congr 1
    · omega
    · show _ = max m (d + ((bd t + 1 : Nat) : Int)); omega
  | .neg t, h, d, m, y, hm => by
    rw [show (wr (.neg t)).1 = [45] ++ brk (wr t) 1 from rfl, List.append_assoc, go_flat (w := [45]) d m _ (by decide), go_brk (go_wr (t := t) h) 1 d m y hm]
    rfl
  | .pow t k, h, d, m, y, hm => by
    rw [show (wr (.pow t k)).1 = brk (wr t) 3 ++ [94] ++ [48 + k] from rfl, List.append_assoc, List.append_assoc, go_brk (go_wr (t := t) h.1) 3 d m _ hm]
    have hk := h.2
    rw [go_flat (w := [94]) _ _ _ (by decide), go_flat (w := [48 + k]) _ _ _ (fun c hc => by cases List.mem_singleton.mp hc; omega)]
    rfl
  | .op o l r, h, d, m, y, hm => by
    rw [show (wr (.op o l r)).1 = brk (wr l) o.rank ++ o.mark ++ brk (wr r) (o.rank + 1) from rfl, List.append_assoc, List.append_assoc, go_brk (go_wr h.1) _ d m _ hm, go_flat _ _ _ (mark_flat o), go_brk (go_wr h.2) _ _ _ _ (by omega)]
    congr 1
    show _ = max m (d + ((max (bdk (bd l) (wr l).2 o.rank) (bdk (bd r) (wr r).2 (o.rank + 1)) : Nat) : Int))
    omega
theorem depth_txt {t : Tr} (h : ok t) : depth (txt t) = bd t := by
  have := go_wr h 0 0 [] (Int.le_refl _)
  rw [List.append_nil] at this
  unfold depth txt
  rw [this]
  show max 0 (0 + (bd t : Int)) = _
  omega
/-! ### the live brackets -/
structure Fr where
  k : Bool
  o : Bool
  m : Nat
def Fr.v (f : Fr) : Nat := f.m + if f.k || f.o then 1 else 0
def close : List Fr → List Fr
  | f :: g :: F => { g with m := max g.m f.v } :: F
  | F => F
def mark : List Fr → List Fr
  | f :: F => { f with o := true } :: F
  | [] => []
def sc (s : List Fr × Bool) (c : Nat) : List Fr × Bool :=
  if c = 40 then (⟨s.2, false, 0⟩ :: s.1, false) else if c = 41 then (close s.1, false) else if opc c then (mark s.1, false) else if nsg c then (s.1, true) else s
def scan (s : List Fr × Bool) (x : W) : List Fr × Bool := x.foldl sc s
theorem scan_app (s : List Fr × Bool) (x y : W) : scan s (x ++ y) = scan (scan s x) y := List.foldl_append
theorem sc_name {c : Nat} (h : nsg c = true) (s : List Fr × Bool) : sc s c = (s.1, true) := by
  have hc := nsg_ne h
  unfold sc
  rw [if_neg hc.1, if_neg hc.2.1, if_neg, if_pos h]
  unfold opc
  simp
  omega
theorem scan_word : ∀ {w : W}, w ≠ [] → (∀ c ∈ w, nsg c = true) → ∀ s, scan s w = (s.1, true)
  | [c], _, h, s => sc_name (h c List.mem_cons_self) s
  | c :: d :: w, _, h, s => by
    show scan (sc s c) (d :: w) = _
    rw [sc_name (h c List.mem_cons_self), scan_word (w := d :: w) nofun (fun e he => h e (List.mem_cons_of_mem _ he))]
theorem scan_toks : ∀ {x : W} {ts : List W}, toks x = some ts → ∀ s, scan s x = scan s ts.flatten
  | [], ts, h, s => by cases h; rfl
  | c :: r, ts, h, s => by
    obtain ⟨us, e1, e2⟩ := toks_cases h
    have ih := scan_toks e1
    show scan (sc s c) r = _
    rw [ih]
    rcases e2 with ⟨hn, ⟨d, r', t, u', _, _, rfl, rfl⟩ | ⟨_, rfl⟩⟩ | ⟨hn, hs, rfl⟩ | ⟨hn, hb, rfl⟩
    · rfl
    · rfl
    · rfl
    · subst hb
      have : sc s 32 = s := by unfold sc; rw [if_neg (by decide), if_neg (by decide), if_neg (by decide), if_neg (by decide)]
      rw [this]
/-- what a piece does to the frame it stands in -/
def Does (x : W) (l : Bool) (h : Bool) (X : Nat) : Prop := ∀ f F, ∃ l', scan (f :: F, l) x = (⟨f.k, f.o || h, max f.m X⟩ :: F, l')
theorem sc_op {o : Op} (f : Fr) (F : List Fr) (l : Bool) : sc (f :: F, l) o.c = (⟨f.k, true, f.m⟩ :: F, false) := by cases o <;> rfl
theorem rank_lv {o : Op} (h : o.low = true) : o.rank = 0 := by cases o <;> revert h <;> decide
theorem rank_hv {o : Op} (h : o.low = false) : o.rank = 1 := by cases o <;> revert h <;> decide
theorem flat_app (a b : List W) : (a ++ b).flatten = a.flatten ++ b.flatten := List.flatten_append
theorem gr_live : ∀ {lv t c}, Gr lv t c → lv ≤ 4 ∧ ∀ l, ∃ h X, Does c.flatten l h X ∧ bd t ≤ X ∧ ((wr t).2 < 3 → h = true ∨ bd t + 1 ≤ X) ∧ (lv ≤ (wr t).2 + 1 ∨ bd t + 1 ≤ X) := by
  intro lv t c h
  induction h with
  | @num w h =>
    refine ⟨Nat.le_refl _, fun l => ⟨false, 0, fun f F => ⟨true, ?_⟩, Nat.le_refl _, fun z => absurd z (by show ¬ 3 < 3; decide), .inl (by show 4 ≤ 3 + 1; decide)⟩⟩
    rw [show [w].flatten = w by simp, scan_word (figs_dig h).1 fun c hc => dig_nsg ((figs_dig h).2 c hc)]
    simp
  | @name w h =>
    refine ⟨Nat.le_refl _, fun l => ⟨false, 0, fun f F => ⟨true, ?_⟩, Nat.le_refl _, fun z => absurd z (by show ¬ 3 < 3; decide), .inl (by show 4 ≤ 3 + 1; decide)⟩⟩
    rw [show [w].flatten = w by simp, scan_word (name_nsg h).1 (name_nsg h).2]
    simp
  | @br t c h ih =>
    refine ⟨Nat.le_refl _, fun l => ?_⟩
    obtain ⟨_, ih⟩ := ih
    obtain ⟨h0, X, i1, i2, i3, i4⟩ := ih false
    refine ⟨false, X + (if l || h0 then 1 else 0), fun f F => ⟨false, ?_⟩, by omega, fun z => .inr ?_, ?_⟩
    · obtain ⟨l', e⟩ := i1 ⟨l, false, 0⟩ (f :: F)
      rw [List.cons_append, List.flatten_cons, flat_app]
      show scan (sc (f :: F, l) 40) (c.flatten ++ [[41]].flatten) = _
      rw [scan_app, show sc (f :: F, l) 40 = (⟨l, false, 0⟩ :: f :: F, false) from rfl, e]
      show (close _, false) = _
      simp [close, Fr.v]
    · rcases i3 z with z | z
      · rw [z]; simp; omega
      · split <;> omega
    · by_cases z : (wr t).2 < 3
      · right
        rcases i3 z with z | z
        · rw [z]; simp; omega
        · split <;> omega
      · left; omega
  | @call w t c hw h ih =>
    refine ⟨Nat.le_refl _, fun l => ?_⟩
    obtain ⟨_, ih⟩ := ih
    obtain ⟨h0, X, i1, i2, i3, i4⟩ := ih false
    obtain ⟨_, _, c1, c2⟩ := call_notNum hw
    refine ⟨false, X + 1, fun f F => ⟨false, ?_⟩, by show bd t + 1 ≤ _; omega, fun z => absurd z (by show ¬ 3 < 3; decide), .inl (by show 4 ≤ 3 + 1; decide)⟩
    obtain ⟨l', e⟩ := i1 ⟨true, false, 0⟩ (f :: F)
    rw [List.cons_append, List.cons_append, List.flatten_cons, List.flatten_cons, flat_app, scan_app, scan_word c1 c2]
    show scan (sc (f :: F, true) 40) (c.flatten ++ [[41]].flatten) = _
    rw [scan_app, show sc (f :: F, true) 40 = (⟨true, false, 0⟩ :: f :: F, false) from rfl, e]
    show (close _, false) = _
    simp [close, Fr.v]
  | @pow t c d hd h ih =>
    refine ⟨by decide, fun l => ?_⟩
    obtain ⟨_, ih⟩ := ih
    obtain ⟨h0, X, i1, i2, i3, i4⟩ := ih l
    refine ⟨true, X, fun f F => ⟨true, ?_⟩, ?_, fun _ => .inl rfl, .inl (by show 3 ≤ 2 + 1; decide)⟩
    · obtain ⟨l', e⟩ := i1 f F
      rw [flat_app, scan_app, e]
      show scan (sc (_, l') 94) [d] = _
      rw [show ∀ g G l, sc (g :: G, l) 94 = (⟨g.k, true, g.m⟩ :: G, false) from fun _ _ _ => rfl]
      show sc _ d = _
      rw [sc_name (dig_nsg hd)]
      simp
    · show bdk (bd t) (wr t).2 3 ≤ X
      unfold bdk
      have := wr_rank t
      split <;> omega
  | @high o l0 r0 c c' ho h h2 ih i2 =>
    refine ⟨by decide, fun l => ?_⟩
    obtain ⟨_, ih⟩ := ih
    obtain ⟨_, i2⟩ := i2
    obtain ⟨ha, X, a1, a2, a3, a4⟩ := ih l
    obtain ⟨hb, Y, b1, b2, b3, b4⟩ := i2 false
    refine ⟨true, max X Y, fun f F => ?_, ?_, fun _ => .inl rfl, .inl (by show 2 ≤ o.rank + 1; rw [rank_hv ho]; decide)⟩
    · obtain ⟨l', e⟩ := a1 f F
      obtain ⟨l2, e2⟩ := b1 ⟨f.k, true, max f.m X⟩ F
      refine ⟨l2, ?_⟩
      rw [flat_app, List.flatten_cons, scan_app, e, scan_app]
      show scan (sc _ o.c) c'.flatten = _
      rw [sc_op, e2]
      simp [Nat.max_assoc]
    · show max (bdk (bd l0) (wr l0).2 o.rank) (bdk (bd r0) (wr r0).2 (o.rank + 1)) ≤ _
      rw [rank_hv ho]
      unfold bdk
      split <;> split <;> omega
  | @low o l0 r0 c c' ho h h2 ih i2 =>
    refine ⟨by decide, fun l => ?_⟩
    obtain ⟨_, ih⟩ := ih
    obtain ⟨_, i2⟩ := i2
    obtain ⟨ha, X, a1, a2, a3, a4⟩ := ih l
    obtain ⟨hb, Y, b1, b2, b3, b4⟩ := i2 false
    refine ⟨true, max X Y, fun f F => ?_, ?_, fun _ => .inl rfl, .inl (by omega)⟩
    · obtain ⟨l', e⟩ := a1 f F
      obtain ⟨l2, e2⟩ := b1 ⟨f.k, true, max f.m X⟩ F
      refine ⟨l2, ?_⟩
      rw [flat_app, List.flatten_cons, scan_app, e, scan_app]
      show scan (sc _ o.c) c'.flatten = _
      rw [sc_op, e2]
      simp [Nat.max_assoc]
    · show max (bdk (bd l0) (wr l0).2 o.rank) (bdk (bd r0) (wr r0).2 (o.rank + 1)) ≤ _
      rw [rank_lv ho]
      unfold bdk
      split <;> split <;> omega
  | @neg t c h ih =>
    refine ⟨by decide, fun l => ?_⟩
    obtain ⟨_, ih⟩ := ih
    obtain ⟨h0, X, i1, i2, i3, i4⟩ := ih false
    refine ⟨true, X, fun f F => ?_, ?_, fun _ => .inl rfl, .inl (by omega)⟩
    · obtain ⟨l', e⟩ := i1 ⟨f.k, true, f.m⟩ F
      refine ⟨l', ?_⟩
      rw [List.flatten_cons]
      show scan (sc (f :: F, l) 45) c.flatten = _
      rw [show sc (f :: F, l) 45 = (⟨f.k, true, f.m⟩ :: F, false) from rfl, e]
      simp
    · show bdk (bd t) (wr t).2 1 ≤ X
      unfold bdk
      split <;> omega
  | up h h0 ih =>
    obtain ⟨ih0, ih⟩ := ih
    refine ⟨by omega, fun l => ?_⟩
    obtain ⟨h0, X, i1, i2, i3, i4⟩ := ih l
    exact ⟨h0, X, i1, i2, i3, i4.imp (fun z => by omega) id⟩
/-! ### a bent text -/
def FLe (e : Nat) (f g : Fr) : Prop := (g.k = true → f.k = true) ∧ (g.o = true → f.o = true) ∧ g.m ≤ f.m + e
inductive PA (e : Nat) : List Fr → List Fr → Prop
  | nil : PA e [] []
  | cons {f g F G} (h : FLe e f g) (r : PA e F G) : PA e (f :: F) (g :: G)
inductive PB : List Fr → List Fr → Prop
  | here {f g F G} (h : g.m ≤ f.m) (r : PA 0 F G) : PB (f :: F) (g :: G)
  | there {f g F G} (h : FLe 0 f g) (r : PB F G) : PB (f :: F) (g :: G)
theorem FLe.rfl {f : Fr} {e : Nat} : FLe e f f := ⟨id, id, by omega⟩
theorem PA.rfl {e : Nat} : ∀ {F : List Fr}, PA e F F
  | [] => .nil
  | f :: F => .cons .rfl .rfl
theorem FLe.v {e : Nat} {f g : Fr} (h : FLe e f g) : g.v ≤ f.v + e := by
  obtain ⟨h1, h2, h3⟩ := h
  unfold Fr.v
  cases hk : g.k <;> cases ho : g.o <;> simp_all <;> (try split) <;> omega
theorem v_le (f : Fr) : f.m ≤ f.v ∧ f.v ≤ f.m + 1 := by unfold Fr.v; split <;> omega
theorem PA.close {e : Nat} {F G : List Fr} (h : PA e F G) : PA e (Pl.close F) (Pl.close G) := by
  cases h with
  | nil => exact .nil
  | cons h r =>
    cases r with
    | nil => exact .cons h .nil
    | cons h2 r2 =>
      refine .cons ⟨h2.1, h2.2.1, ?_⟩ r2
      have := h.v
      have := h2.2.2
      show max _ _ ≤ max _ _ + e
      omega
theorem PA.mark {e : Nat} {F G : List Fr} (h : PA e F G) : PA e (Pl.mark F) (Pl.mark G) := by
  cases h with
  | nil => exact .nil
  | cons h r => exact .cons ⟨h.1, fun _ => Eq.refl _, h.2.2⟩ r
theorem PA.up {F G : List Fr} (h : PA 0 F G) : PA 1 F G := by
  induction h with
  | nil => exact .nil
  | cons h r ih => exact .cons ⟨h.1, h.2.1, by have := h.2.2; omega⟩ ih
theorem PB.one {F G : List Fr} (h : PB F G) : ∀ {f g}, F = [f] → G = [g] → g.m ≤ f.m + 1 := by
  intro f g e1 e2
  cases h with
  | here h r => cases e1; cases e2; omega
  | there h r => cases e1; cases e2; cases r
/-- the two scans side by side -/
def Sim (s t : List Fr × Bool) : Prop := PA 0 s.1 t.1 ∨ (PB s.1 t.1 ∧ (t.2 = true → s.2 = true)) ∨ (PA 1 s.1 t.1 ∧ (t.2 = true → s.2 = true))
theorem PB.close {F G : List Fr} (h : PB F G) : PB (Pl.close F) (Pl.close G) ∨ PA 1 (Pl.close F) (Pl.close G) := by
  cases h with
  | here h r =>
    cases r with
    | nil => exact .inl (.here h .nil)
    | cons h2 r2 =>
      refine .inr (.cons ⟨h2.1, h2.2.1, ?_⟩ r2.up)
      rename_i f g _ _ _ _
      have := v_le f
      have := v_le g
      have := h2.2.2
      show max _ _ ≤ max _ _ + 1
      omega
  | there h r =>
    cases r with
    | here h2 r2 =>
      refine .inl (.here ?_ r2)
      have := h.v
      show max _ _ ≤ max _ _
      omega
    | there h2 r2 =>
      refine .inl (.there ⟨h2.1, h2.2.1, ?_⟩ r2)
      have := h.v
      have := h2.2.2
      show max _ _ ≤ max _ _ + 0
      omega
theorem PB.mark {F G : List Fr} (h : PB F G) : PB (Pl.mark F) (Pl.mark G) := by
  cases h with
  | here h r => exact .here h r
  | there h r => exact .there ⟨h.1, fun _ => rfl, h.2.2⟩ r
theorem sim_sc {s t : List Fr × Bool} (h : Sim s t) (c : Nat) : Sim (sc s c) (sc t c) := by
  obtain ⟨F, l⟩ := s
  obtain ⟨G, l'⟩ := t
  unfold sc
  by_cases h1 : c = 40
  · rw [if_pos h1, if_pos h1]
    rcases h with h | ⟨h, hl⟩ | ⟨h, hl⟩
    · exact .inr (.inl ⟨.here (Nat.le_refl _) h, nofun⟩)
    · exact .inr (.inl ⟨.there ⟨hl, id, Nat.le_refl _⟩ h, nofun⟩)
    · exact .inr (.inr ⟨.cons ⟨hl, id, by show 0 ≤ 0 + 1; omega⟩ h, nofun⟩)
  rw [if_neg h1, if_neg h1]
  by_cases h2 : c = 41
  · rw [if_pos h2, if_pos h2]
    rcases h with h | ⟨h, hl⟩ | ⟨h, hl⟩
    · exact .inl h.close
    · rcases h.close with z | z
      · exact .inr (.inl ⟨z, nofun⟩)
      · exact .inr (.inr ⟨z, nofun⟩)
    · exact .inr (.inr ⟨h.close, nofun⟩)
  rw [if_neg h2, if_neg h2]
  by_cases h3 : opc c = true
  · rw [if_pos h3, if_pos h3]
    rcases h with h | ⟨h, hl⟩ | ⟨h, hl⟩
    · exact .inl h.mark
    · exact .inr (.inl ⟨h.mark, nofun⟩)
    · exact .inr (.inr ⟨h.mark, nofun⟩)
  rw [if_neg h3, if_neg h3]
  by_cases h4 : nsg c = true
  · rw [if_pos h4, if_pos h4]
    rcases h with h | ⟨h, hl⟩ | ⟨h, hl⟩
    · exact .inl h
    · exact .inr (.inl ⟨h, fun _ => rfl⟩)
    · exact .inr (.inr ⟨h, fun _ => rfl⟩)
  rw [if_neg h4, if_neg h4]
  exact h
theorem sim_scan : ∀ (x : W) {s t : List Fr × Bool}, Sim s t → Sim (scan s x) (scan t x)
  | [], s, t, h => h
  | c :: x, s, t, h => sim_scan x (sim_sc h c)
theorem sim_end {f g : Fr} {l l' : Bool} (h : Sim ([f], l) ([g], l')) : g.m ≤ f.m + 1 := by
  rcases h with h | ⟨h, _⟩ | ⟨h, _⟩
  · cases h with | cons h r => have := h.2.2; omega
  · exact h.one rfl rfl
  · cases h with | cons h r => exact h.2.2
/-! ### brackets counted -/
def net : W → Int
  | [] => 0
  | c :: r => (if c = 40 then 1 else if c = 41 then -1 else 0) + net r
theorem net_app : ∀ (a b : W), net (a ++ b) = net a + net b
  | [], b => by simp [net]
  | c :: a, b => by rw [List.cons_append]; simp only [net, net_app a b]; omega
theorem net_word : ∀ {w : W}, (∀ c ∈ w, nsg c = true) → net w = 0
  | [], _ => rfl
  | c :: w, h => by
    have hc := nsg_ne (h c List.mem_cons_self)
    simp only [net, if_neg hc.1, if_neg hc.2.1, net_word fun e he => h e (List.mem_cons_of_mem _ he)]
    rfl
theorem net_toks : ∀ {x : W} {ts : List W}, toks x = some ts → net x = net ts.flatten
  | [], ts, h => by cases h; rfl
  | c :: r, ts, h => by
    obtain ⟨us, e1, e2⟩ := toks_cases h
    have ih := net_toks e1
    rcases e2 with ⟨hn, ⟨d, r', t, u', _, _, rfl, rfl⟩ | ⟨_, rfl⟩⟩ | ⟨hn, hs, rfl⟩ | ⟨hn, hb, rfl⟩
    · rw [List.flatten_cons] at ih ⊢; rw [List.cons_append]; simp only [net, ih]
    · rw [List.flatten_cons]; simp only [net, ih, List.cons_append, List.nil_append]
    · rw [List.flatten_cons]; simp only [net, ih, List.cons_append, List.nil_append]
    · subst hb; simp only [net, ih]; rw [if_neg (by decide), if_neg (by decide)]; omega
theorem gr_net : ∀ {k t c}, Gr k t c → net c.flatten = 0 := by
  intro k t c h
  induction h with
  | num h => rw [show ∀ w : W, [w].flatten = w by simp]; exact net_word fun c hc => dig_nsg ((figs_dig h).2 c hc)
  | name h => rw [show ∀ w : W, [w].flatten = w by simp]; exact net_word (name_nsg h).2
  | br h ih => rw [List.cons_append, List.flatten_cons, flat_app, net_app, net_app, ih]; rfl
  | call hw h ih => rw [List.cons_append, List.cons_append, List.flatten_cons, List.flatten_cons, flat_app, net_app, net_app, net_app, ih, net_word (call_notNum hw).2.2.2]; rfl
  | @pow t c d hd h ih => rw [flat_app, net_app, ih, show [[94], [d]].flatten = [94] ++ [d] by simp, net_app, net_word (w := [d]) (fun e he => by cases List.mem_singleton.mp he; exact dig_nsg hd)]; rfl
  | @high o l r c c' ho h h2 i1 i2 => rw [flat_app, List.flatten_cons, net_app, net_app, i1, i2]; cases o <;> rfl
  | @low o l r c c' ho h h2 i1 i2 => rw [flat_app, List.flatten_cons, net_app, net_app, i1, i2]; cases o <;> rfl
  | neg h ih => rw [List.flatten_cons, net_app, ih]; rfl
  | up h h0 ih => exact ih
/-- a sign that is put in -/
def Ins (s : W) : Prop := s = [] ∨ (∃ c, s = [c]) ∨ s = [40, 45] ∨ s = [101, 120, 112, 40]
theorem sc_none {c : Nat} (h1 : c ≠ 40) (h2 : c ≠ 41) (s : List Fr × Bool) : ∃ l, sc s c = (s.1, l) ∨ sc s c = (mark s.1, false) := by
  unfold sc
  rw [if_neg h1, if_neg h2]
  split
  · exact ⟨false, .inr rfl⟩
  split
  · exact ⟨true, .inl rfl⟩
  · exact ⟨s.2, .inl rfl⟩
theorem pa_mark : ∀ (F : List Fr), PA 0 (mark F) F
  | [] => .nil
  | f :: F => .cons ⟨id, fun _ => rfl, Nat.le_refl _⟩ .rfl
theorem pb_mark {f : Fr} {F G : List Fr} (h : G = f :: F ∨ G = mark (f :: F)) : PB G (mark (f :: F)) := by
  rcases h with rfl | rfl
  · exact .here (Nat.le_refl _) .rfl
  · exact .here (Nat.le_refl _) .rfl
theorem sim_bent {f : Fr} {F : List Fr} {l : Bool} {r s : W} (hr : r = [] ∨ ∃ c, r = [c]) (hs : Ins s) (hn : net r = net s) : Sim (scan (f :: F, l) r) (scan (f :: F, l) s) := by
  -- signs that are no brackets
  have flat : ∀ {r : W}, (r = [] ∨ ∃ c, r = [c]) → net r = 0 → ∃ l', scan (f :: F, l) r = (f :: F, l') ∨ scan (f :: F, l) r = (mark (f :: F), false) := by
    intro r hr h0
    rcases hr with rfl | ⟨c, rfl⟩
    · exact ⟨l, .inl rfl⟩
    · refine sc_none (fun z => ?_) (fun z => ?_) _
      · subst z; exact absurd h0 (by decide)
      · subst z; exact absurd h0 (by decide)
  have both : ∀ {s : W}, (s = [] ∨ ∃ c, s = [c]) → net r = 0 → net s = 0 → Sim (scan (f :: F, l) r) (scan (f :: F, l) s) := by
    intro s hs h0 h1
    obtain ⟨l1, e1⟩ := flat hr h0
    obtain ⟨l2, e2⟩ := flat hs h1
    rcases e2 with e2 | e2
    · rw [e2]
      rcases e1 with e1 | e1
      · rw [e1]; exact .inl .rfl
      · rw [e1]; exact .inl (show PA 0 (mark (f :: F)) (f :: F) from pa_mark _)
    · rw [e2]
      refine .inr (.inl ⟨pb_mark ?_, nofun⟩)
      rcases e1 with e1 | e1
      · rw [e1]; exact .inl rfl
      · rw [e1]; exact .inr rfl
  have rb : net r = 1 → r = [40] := by
    intro h
    rcases hr with rfl | ⟨c, rfl⟩
    · exact absurd h (by decide)
    · by_cases z : c = 40
      · rw [z]
      · exfalso; simp only [net, if_neg z] at h; split at h <;> omega
  have rc : net r = -1 → r = [41] := by
    intro h
    rcases hr with rfl | ⟨c, rfl⟩
    · exact absurd h (by decide)
    · by_cases z : c = 41
      · rw [z]
      · exfalso
        simp only [net] at h
        split at h
        · omega
        · first | omega | (rw [if_neg z] at h; omega)
  rcases hs with rfl | ⟨c, rfl⟩ | rfl | rfl
  · exact both (.inl rfl) hn rfl
  · by_cases h1 : c = 40
    · subst h1
      rw [rb hn]; exact .inl .rfl
    by_cases h2 : c = 41
    · subst h2
      rw [rc hn]; exact .inl .rfl
    have h0 : net [c] = 0 := by simp only [net, if_neg h1, if_neg h2]; rfl
    exact both (.inr ⟨c, rfl⟩) (hn.trans h0) h0
  · rw [rb hn]
    exact .inr (.inl ⟨.here (Nat.le_refl _) .rfl, nofun⟩)
  · rw [rb hn]
    exact .inr (.inl ⟨.here (Nat.le_refl _) .rfl, nofun⟩)
theorem scan_ne : ∀ (x : W) (s : List Fr × Bool), s.1 ≠ [] → (scan s x).1 ≠ []
  | [], s, h => h
  | c :: x, s, h => by
    refine scan_ne x (sc s c) ?_
    obtain ⟨F, l⟩ := s
    unfold sc
    split
    · exact nofun
    split
    · match F, h with
      | [f], _ => exact nofun
      | f :: g :: F, _ => exact nofun
    split
    · match F, h with
      | f :: F, _ => exact nofun
    split
    · exact h
    · exact h
/-- the depth of what a bent text says -/
theorem bent_depth {a r b s : W} {t : Tr} {X : Nat} {h : Bool} (hx : Does (a ++ r ++ b) false h X) (hn0 : net (a ++ r ++ b) = 0) (hr : r = [] ∨ ∃ c, r = [c]) (hs : Ins s) (ht : read (a ++ s ++ b) = some t) : bd t ≤ X + 1 := by
  obtain ⟨ts, h1, h2⟩ := gr_of_read ht
  have hn : net (a ++ s ++ b) = 0 := by rw [net_toks h1, gr_net h2]
  have hn2 : net r = net s := by rw [net_app, net_app] at hn hn0; omega
  obtain ⟨_, h3⟩ := gr_live h2
  obtain ⟨h', X', i1, i2, _⟩ := h3 false
  obtain ⟨l1, e1⟩ := hx ⟨false, false, 0⟩ []
  obtain ⟨l2, e2⟩ := i1 ⟨false, false, 0⟩ []
  rw [← scan_toks h1] at e2
  have key : Sim (scan ([⟨false, false, 0⟩], false) (a ++ r ++ b)) (scan ([⟨false, false, 0⟩], false) (a ++ s ++ b)) := by
    rw [scan_app, scan_app, scan_app (x := a ++ s), scan_app (x := a)]
    refine sim_scan b ?_
    have := scan_ne a ([⟨false, false, 0⟩], false) nofun
    generalize scan ([⟨false, false, 0⟩], false) a = q at this
    obtain ⟨Q, l⟩ := q
    match Q, this with
    | f :: F, _ => exact sim_bent hr hs hn2
  rw [e1, e2] at key
  have := sim_end key
  have h5 : max 0 X' ≤ max 0 X + 1 := this
  omega
end Pl

set_option linter.all false
/-! # Loose writings and their bounds; the grown formulas -/
namespace Pl
def Bl (b : W) : Prop := blk b ∧ b.length ≤ 2
inductive Lo : Tr → Nat → Bool → W → Prop
  | num {w} (h : figs w = true) (hl : w.length ≤ 15) : Lo (.num w) 4 false w
  | name {w} (h : isName w = true) : Lo (.name w) 4 false w
  | br {t lv x b} (h : Lo t lv false x) (hb : Bl b) : Lo t 4 true ([40] ++ b ++ x ++ [41])
  | call {w t lv q x b b' b''} (hw : isCall w = true) (h : Lo t lv q x) (hb : Bl b) (hb' : Bl b') (hb'' : Bl b'') : Lo (.call w t) 4 false (w ++ b ++ [40] ++ b' ++ x ++ b'' ++ [41])
  | pow {t q x d b b'} (hd : d ≤ 9) (h : Lo t 4 q x) (hb : Bl b) (hb' : Bl b') : Lo (.pow t d) 3 false (x ++ b ++ [94] ++ b' ++ [48 + d])
  | neg {t lv q x b} (h : Lo t lv q x) (h2 : 2 ≤ lv) (hb : Bl b) : Lo (.neg t) 1 false ([45] ++ b ++ x)
  | high {o l r lv lv' q q' x y b b'} (ho : o.low = false) (h : Lo l lv q x) (h2 : 2 ≤ lv) (h' : Lo r lv' q' y) (h3 : 3 ≤ lv') (hb : Bl b) (hb' : Bl b') : Lo (.op o l r) 2 false (x ++ b ++ [o.c] ++ b' ++ y)
  | low {o l r lv lv' q q' x y b b'} (ho : o.low = true) (h : Lo l lv q x) (h' : Lo r lv' q' y) (h3 : 2 ≤ lv') (hb : Bl b) (hb' : Bl b') : Lo (.op o l r) 1 false (x ++ b ++ [o.c] ++ b' ++ y)
theorem lo_lv {t lv q x} (h : Lo t lv q x) : 1 ≤ lv ∧ lv ≤ 4 := by cases h <;> decide
theorem lo_wrt {t lv q x} (h : Lo t lv q x) : Wrt t lv x := by
  induction h with
  | num h hl => exact wrt_num h
  | name h => exact wrt_name h
  | br h hb ih =>
    have hl := lo_lv h
    have z := wrt_br (ih.d (a := 1) (by omega) hl.2 hl.1) hb.1 blk_nil
    simpa using z
  | call hw h hb hb' hb'' ih =>
    have hl := lo_lv h
    exact wrt_call hw (ih.d (a := 1) (by omega) hl.2 hl.1) hb.1 hb'.1 hb''.1
  | pow hd h hb hb' ih => exact wrt_pow hd ih hb.1 hb'.1
  | neg h h2 hb ih => exact wrt_neg (ih.d (by omega) (lo_lv h).2 h2) hb.1
  | high ho h h2 h' h3 hb hb' i1 i2 => exact wrt_high ho (i1.d (by omega) (lo_lv h).2 h2) (i2.d (by omega) (lo_lv h').2 h3) hb.1 hb'.1
  | low ho h h' h3 hb hb' i1 i2 => exact wrt_low ho (i1.d (by omega) (lo_lv h).2 (lo_lv h).1) (i2.d (by omega) (lo_lv h').2 h3) hb.1 hb'.1
/-- the height -/
def ht : Tr → Nat
  | .num _ => 0
  | .name _ => 0
  | .call _ t => ht t + 1
  | .neg t => ht t + 1
  | .pow t _ => ht t + 1
  | .op _ l r => max (ht l) (ht r) + 1
theorem scan_blk : ∀ {b : W}, blk b → ∀ s, scan s b = s
  | [], _, s => rfl
  | c :: b, h, s => by
    have : c = 32 := h c List.mem_cons_self
    subst this
    show scan (sc s 32) b = s
    have : sc s 32 = s := by unfold sc; rw [if_neg (by decide), if_neg (by decide), if_neg (by decide), if_neg (by decide)]
    rw [this]
    exact scan_blk (fun c hc => h c (List.mem_cons_of_mem _ hc)) s
theorem net_blk : ∀ {b : W}, blk b → net b = 0
  | [], _ => rfl
  | c :: b, h => by
    have : c = 32 := h c List.mem_cons_self
    subst this
    have := net_blk fun c hc => h c (List.mem_cons_of_mem 32 hc)
    simp only [net, this]; rfl
def b2n (h : Bool) : Nat := if h then 1 else 0
theorem lo_live {t lv q x} (h : Lo t lv q x) : ∃ h X, Does x false h X ∧ X + b2n h ≤ ht t := by
  induction h with
  | @num w h hl => exact ⟨false, 0, fun f F => ⟨true, by rw [scan_word (figs_dig h).1 fun c hc => dig_nsg ((figs_dig h).2 c hc)]; simp⟩, Nat.le_refl _⟩
  | @name w h => exact ⟨false, 0, fun f F => ⟨true, by rw [scan_word (name_nsg h).1 (name_nsg h).2]; simp⟩, Nat.le_refl _⟩
  | @br t lv x b h hb ih =>
    obtain ⟨h0, X, i1, i2⟩ := ih
    refine ⟨false, X + b2n h0, fun f F => ⟨false, ?_⟩, by simpa [b2n] using i2⟩
    obtain ⟨l', e⟩ := i1 ⟨false, false, 0⟩ (f :: F)
    rw [scan_app, scan_app, scan_app]
    show scan (scan (scan (⟨false, false, 0⟩ :: f :: F, false) b) x) [41] = _
    rw [scan_blk hb.1, e]
    show (close _, false) = _
    simp [close, Fr.v, b2n]
  | @call w t lv q x b b' b'' hw h hb hb' hb'' ih =>
    obtain ⟨h0, X, i1, i2⟩ := ih
    obtain ⟨_, _, c1, c2⟩ := call_notNum hw
    refine ⟨false, X + 1, fun f F => ⟨false, ?_⟩, by show X + 1 + 0 ≤ ht t + 1; omega⟩
    obtain ⟨l', e⟩ := i1 ⟨true, false, 0⟩ (f :: F)
    rw [scan_app, scan_app, scan_app, scan_app, scan_app, scan_app, scan_word c1 c2, scan_blk hb.1]
    show scan (scan (scan (scan (⟨true, false, 0⟩ :: f :: F, false) b') x) b'') [41] = _
    rw [scan_blk hb'.1, e, scan_blk hb''.1]
    show (close _, false) = _
    simp [close, Fr.v]
  | @pow t q x d b b' hd h hb hb' ih =>
    obtain ⟨h0, X, i1, i2⟩ := ih
    refine ⟨true, X, fun f F => ⟨true, ?_⟩, by show X + 1 ≤ ht t + 1; omega⟩
    obtain ⟨l', e⟩ := i1 f F
    rw [scan_app, scan_app, scan_app, scan_app, e, scan_blk hb.1]
    show scan (scan (⟨f.k, true, max f.m X⟩ :: F, false) b') [48 + d] = _
    rw [scan_blk hb'.1]
    have : nsg (48 + d) = true := dig_nsg (by unfold dig; simp; omega)
    show sc _ (48 + d) = _
    rw [sc_name this]
    simp
  | @neg t lv q x b h h2 hb ih =>
    obtain ⟨h0, X, i1, i2⟩ := ih
    refine ⟨true, X, fun f F => ?_, by show X + 1 ≤ ht t + 1; omega⟩
    obtain ⟨l', e⟩ := i1 ⟨f.k, true, f.m⟩ F
    refine ⟨l', ?_⟩
    rw [scan_app, scan_app]
    show scan (scan (⟨f.k, true, f.m⟩ :: F, false) b) x = _
    rw [scan_blk hb.1, e]
    simp
  | @high o l r lv lv' q q' x y b b' ho h h2 h' h3 hb hb' i1 i2 =>
    obtain ⟨ha, X, a1, a2⟩ := i1
    obtain ⟨hc, Y, b1, b2⟩ := i2
    refine ⟨true, max X Y, fun f F => ?_, by show max X Y + 1 ≤ max (ht l) (ht r) + 1; omega⟩
    obtain ⟨l', e⟩ := a1 f F
    obtain ⟨l2, e2⟩ := b1 ⟨f.k, true, max f.m X⟩ F
    refine ⟨l2, ?_⟩
    rw [scan_app, scan_app, scan_app, scan_app, e, scan_blk hb.1]
    show scan (scan (sc _ o.c) b') y = _
    rw [sc_op, scan_blk hb'.1, e2]
    simp [Nat.max_assoc]
  | @low o l r lv lv' q q' x y b b' ho h h' h3 hb hb' i1 i2 =>
    obtain ⟨ha, X, a1, a2⟩ := i1
    obtain ⟨hc, Y, b1, b2⟩ := i2
    refine ⟨true, max X Y, fun f F => ?_, by show max X Y + 1 ≤ max (ht l) (ht r) + 1; omega⟩
    obtain ⟨l', e⟩ := a1 f F
    obtain ⟨l2, e2⟩ := b1 ⟨f.k, true, max f.m X⟩ F
    refine ⟨l2, ?_⟩
    rw [scan_app, scan_app, scan_app, scan_app, e, scan_blk hb.1]
    show scan (scan (sc _ o.c) b') y = _
    rw [sc_op, scan_blk hb'.1, e2]
    simp [Nat.max_assoc]
theorem lo_net {t lv q x} (h : Lo t lv q x) : net x = 0 := by
  induction h with
  | num h hl => exact net_word fun c hc => dig_nsg ((figs_dig h).2 c hc)
  | name h => exact net_word (name_nsg h).2
  | br h hb ih => rw [net_app, net_app, net_app, ih, net_blk hb.1]; rfl
  | call hw h hb hb' hb'' ih => rw [net_app, net_app, net_app, net_app, net_app, net_app, ih, net_blk hb.1, net_blk hb'.1, net_blk hb''.1, net_word (call_notNum hw).2.2.2]; rfl
  | @pow t q x d b b' hd h hb hb' ih =>
    rw [net_app, net_app, net_app, net_app, ih, net_blk hb.1, net_blk hb'.1, net_word (w := [48 + d]) fun e he => by
      cases List.mem_singleton.mp he
      exact dig_nsg (by unfold dig; simp; omega)]
    rfl
  | neg h h2 hb ih => rw [net_app, net_app, ih, net_blk hb.1]; rfl
  | @high o l r lv lv' q q' x y b b' ho h h2 h' h3 hb hb' i1 i2 => rw [net_app, net_app, net_app, net_app, i1, i2, net_blk hb.1, net_blk hb'.1]; cases o <;> rfl
  | @low o l r lv lv' q q' x y b b' ho h h' h3 hb hb' i1 i2 => rw [net_app, net_app, net_app, net_app, i1, i2, net_blk hb.1, net_blk hb'.1]; cases o <;> rfl
/-! ### how deep the reader goes -/
def mxc : W → Int
  | [] => 0
  | c :: r => max 0 ((if c = 40 then 1 else if c = 41 then -1 else 0) + mxc r)
theorem mxc_pos : ∀ x, 0 ≤ mxc x
  | [] => Int.le_refl _
  | _ :: _ => Int.le_max_left _ _
theorem mxc_app : ∀ (a b : W), mxc (a ++ b) = max (mxc a) (net a + mxc b)
  | [], b => by have := mxc_pos b; simp only [List.nil_append, mxc, net]; omega
  | c :: a, b => by
    rw [List.cons_append]
    simp only [mxc, net, mxc_app a b]
    omega
theorem mxc_flat : ∀ {w : W}, (∀ c ∈ w, c ≠ 40 ∧ c ≠ 41) → mxc w = 0
  | [], _ => rfl
  | c :: w, h => by
    have hc := h c List.mem_cons_self
    simp only [mxc, if_neg hc.1, if_neg hc.2, mxc_flat fun e he => h e (List.mem_cons_of_mem _ he)]
    rfl
theorem mxc_word {w : W} (h : ∀ c ∈ w, nsg c = true) : mxc w = 0 := mxc_flat fun c hc => ⟨(nsg_ne (h c hc)).1, (nsg_ne (h c hc)).2.1⟩
theorem mxc_blk {b : W} (h : blk b) : mxc b = 0 := mxc_flat fun c hc => by rw [h c hc]; decide
theorem mx_toks : ∀ {x : W} {ts : List W}, toks x = some ts → mx ts = mxc x
  | [], ts, h => by cases h; rfl
  | c :: r, ts, h => by
    obtain ⟨us, e1, e2⟩ := toks_cases h
    have ih := mx_toks e1
    rcases e2 with ⟨hn, e2⟩ | ⟨hn, hs, rfl⟩ | ⟨hn, hb, rfl⟩
    · have hc := nsg_ne hn
      have p := mxc_pos r
      have h1 : mxc (c :: r) = mxc r := by simp only [mxc, if_neg hc.1, if_neg hc.2.1]; omega
      rw [h1]
      rcases e2 with ⟨d, r', t, u', rfl, hd, rfl, rfl⟩ | ⟨e2, rfl⟩
      · obtain ⟨t2, u2, e8, e9, e10⟩ := toks_first e1 hd
        cases e8
        rw [← ih, mx_flat _ (run_word e10 e9).2.2.2.2, mx_flat _ (run_word (w := c :: t) nofun fun e he => (List.mem_cons.mp he).elim (fun z => z ▸ hn) (e9 e)).2.2.2.2]
      · rw [← ih, mx_flat _ (run_word (w := [c]) nofun fun e he => by cases List.mem_singleton.mp he; exact hn).2.2.2.2]
    · show max 0 (dl [c] + mx us) = _
      rw [ih]
      simp only [mxc]
      congr 2
      unfold dl
      by_cases h1 : c = 40
      · subst h1; rfl
      by_cases h2 : c = 41
      · subst h2; rfl
      rw [if_neg (by simpa using h1), if_neg (by simpa using h2), if_neg h1, if_neg h2]
    · subst hb
      have p := mxc_pos r
      rw [ih]
      simp only [mxc]
      rw [if_neg (by decide), if_neg (by decide)]
      omega
theorem lo_mxc {t lv q x} (h : Lo t lv q x) : mxc x ≤ 2 * (ht t : Int) + b2n q := by
  induction h with
  | num h hl => rw [mxc_word fun c hc => dig_nsg ((figs_dig h).2 c hc)]; exact Int.le_refl _
  | name h => rw [mxc_word (name_nsg h).2]; exact Int.le_refl _
  | @br t lv x b h hb ih =>
    simp only [mxc_app, net_app, mxc_blk hb.1, net_blk hb.1, lo_net h, show mxc [40] = 1 from rfl, show net [40] = 1 from rfl, show mxc [41] = 0 from rfl]
    simp only [b2n] at ih ⊢
    simp at ih ⊢
    omega
  | @call w t lv q x b b' b'' hw h hb hb' hb'' ih =>
    have : b2n q ≤ 1 := by unfold b2n; split <;> decide
    simp only [mxc_app, net_app, mxc_blk hb.1, net_blk hb.1, mxc_blk hb'.1, net_blk hb'.1, mxc_blk hb''.1, net_blk hb''.1, lo_net h, show mxc [40] = 1 from rfl, show net [40] = 1 from rfl, show mxc [41] = 0 from rfl, mxc_word (call_notNum hw).2.2.2, net_word (call_notNum hw).2.2.2, ht]
    omega
  | @pow t q x d b b' hd h hb hb' ih =>
    have : b2n q ≤ 1 := by unfold b2n; split <;> decide
    have hn : ∀ e ∈ [48 + d], nsg e = true := fun e he => by cases List.mem_singleton.mp he; exact dig_nsg (by unfold dig; simp; omega)
    simp only [mxc_app, net_app, mxc_blk hb.1, net_blk hb.1, mxc_blk hb'.1, net_blk hb'.1, lo_net h, show mxc [94] = 0 from rfl, show net [94] = 0 from rfl, mxc_word hn, ht]
    omega
  | @neg t lv q x b h h2 hb ih =>
    have : b2n q ≤ 1 := by unfold b2n; split <;> decide
    simp only [mxc_app, net_app, mxc_blk hb.1, net_blk hb.1, show mxc [45] = 0 from rfl, show net [45] = 0 from rfl, ht]
    omega
  | @high o l r lv lv' q q' x y b b' ho h h2 h' h3 hb hb' i1 i2 =>
    have : b2n q ≤ 1 := by unfold b2n; split <;> decide
    have : b2n q' ≤ 1 := by unfold b2n; split <;> decide
    have z1 : mxc [o.c] = 0 := by cases o <;> rfl
    have z2 : net [o.c] = 0 := by cases o <;> rfl
    simp only [mxc_app, net_app, mxc_blk hb.1, net_blk hb.1, mxc_blk hb'.1, net_blk hb'.1, lo_net h, z1, z2, ht]
    omega
  | @low o l r lv lv' q q' x y b b' ho h h' h3 hb hb' i1 i2 =>
    have : b2n q ≤ 1 := by unfold b2n; split <;> decide
    have : b2n q' ≤ 1 := by unfold b2n; split <;> decide
    have z1 : mxc [o.c] = 0 := by cases o <;> rfl
    have z2 : net [o.c] = 0 := by cases o <;> rfl
    simp only [mxc_app, net_app, mxc_blk hb.1, net_blk hb.1, mxc_blk hb'.1, net_blk hb'.1, lo_net h, z1, z2, ht]
    omega
/-! ### lengths -/
theorem call_len {w : W} (h : isCall w = true) : w.length ≤ 4 := by
  have h' : w ∈ calls := of_decide_eq_true h
  unfold calls at h'
  simp only [List.mem_cons, List.mem_nil_iff, or_false] at h'
  rcases h' with rfl | rfl | rfl | rfl | rfl | rfl <;> decide
theorem name_len {w : W} (h : isName w = true) : w.length ≤ 8 := by
  match w, h with
  | c :: r, h =>
    unfold isName at h
    simp only [Bool.and_eq_true, decide_eq_true_eq] at h
    exact h.1.1.1
theorem lo_len {t lv q x} (h : Lo t lv q x) : x.length + 4 ≤ 30 * size t + (if q then 4 else 0) := by
  induction h with
  | num h hl => simp only [size]; simp; omega
  | name h => have := name_len h; simp only [size]; simp; omega
  | br h hb ih => have := hb.2; simp at ih ⊢; omega
  | @call w t lv q x b b' b'' hw h hb hb' hb'' ih =>
    have := call_len hw; have := hb.2; have := hb'.2; have := hb''.2
    simp only [size]; simp; split at ih <;> omega
  | pow hd h hb hb' ih => have := hb.2; have := hb'.2; simp only [size]; simp; split at ih <;> omega
  | neg h h2 hb ih => have := hb.2; simp only [size]; simp; split at ih <;> omega
  | high ho h h2 h' h3 hb hb' i1 i2 => have := hb.2; have := hb'.2; simp only [size]; simp; split at i1 <;> split at i2 <;> omega
  | low ho h h' h3 hb hb' i1 i2 => have := hb.2; have := hb'.2; simp only [size]; simp; split at i1 <;> split at i2 <;> omega
/-! ### digits -/
theorem dg_sep : ∀ (w y : W) (k : Nat), sepd y → dg k (w ++ y) ≤ max (k + w.length) (dg 0 y)
  | [], y, k, h => by
    cases y with
    | nil => show k ≤ _; omega
    | cons c r =>
      have : dig c = false := by
        cases e : dig c with
        | false => rfl
        | true => have := h c r rfl; rw [dig_nsg e] at this; cases this
      simp only [List.nil_append, dg, this, Bool.false_eq_true, if_false]
      omega
  | c :: w, y, k, h => by
    rw [List.cons_append]
    have h1 := dg_sep w y (k + 1) h
    have h2 := dg_sep w y 0 h
    rw [dg]
    split
    · simp; omega
    · simp; omega
theorem dg_non {c : Nat} {r : W} (h : dig c = false) : dg 0 (c :: r) = dg 0 r := by rw [dg, h]; simp
theorem dg_blk : ∀ {b : W} {y : W}, blk b → dg 0 (b ++ y) = dg 0 y
  | [], y, _ => rfl
  | c :: b, y, h => by
    have : c = 32 := h c List.mem_cons_self
    subst this
    rw [List.cons_append, dg_non (by decide)]
    exact dg_blk fun c hc => h c (List.mem_cons_of_mem _ hc)
theorem op_nd (o : Op) : dig o.c = false ∧ sgn o.c = true := by cases o <;> decide
theorem lo_dg {t lv q x} (h : Lo t lv q x) : ∀ y, sepd y → dg 0 (x ++ y) ≤ max 15 (dg 0 y) := by
  induction h with
  | @num w h hl => intro y hy; have := dg_sep w y 0 hy; omega
  | @name w h => intro y hy; have := dg_sep w y 0 hy; have := name_len h; omega
  | br h hb ih =>
    intro y hy
    have i1 := ih ([41] ++ y) (sep_sgn (by decide))
    rw [show ([41] : W) ++ y = 41 :: y from rfl, dg_non (by decide)] at i1
    simp only [List.append_assoc]
    show dg 0 (40 :: (_ ++ (_ ++ (41 :: y)))) ≤ _
    rw [dg_non (by decide), dg_blk hb.1]
    exact i1
  | @call w t lv q x b b' b'' hw h hb hb' hb'' ih =>
    intro y hy
    have i1 := ih (b'' ++ ([41] ++ y)) (sep_blk hb''.1 (sep_sgn (by decide)))
    rw [dg_blk hb''.1, show ([41] : W) ++ y = 41 :: y from rfl, dg_non (by decide)] at i1
    simp only [List.append_assoc]
    have i2 := dg_sep w (b ++ ([40] ++ (b' ++ (x ++ (b'' ++ ([41] ++ y)))))) 0 (sep_blk hb.1 (sep_sgn (by decide)))
    rw [dg_blk hb.1, show ([40] : W) ++ (b' ++ (x ++ (b'' ++ ([41] ++ y)))) = 40 :: (b' ++ (x ++ (b'' ++ ([41] ++ y)))) from rfl, dg_non (by decide), dg_blk hb'.1] at i2
    have := call_len hw
    have e : ([41] : W) ++ y = 41 :: y := rfl
    have e' : ([40] : W) ++ (b' ++ (x ++ (b'' ++ 41 :: y))) = 40 :: (b' ++ (x ++ (b'' ++ 41 :: y))) := rfl
    rw [e] at i2 ⊢
    rw [e']
    omega
  | @pow t q x d b b' hd h hb hb' ih =>
    intro y hy
    have i1 := ih (b ++ ([94] ++ (b' ++ ([48 + d] ++ y)))) (sep_blk hb.1 (sep_sgn (by decide)))
    rw [dg_blk hb.1, show ([94] : W) ++ (b' ++ ([48 + d] ++ y)) = 94 :: (b' ++ ([48 + d] ++ y)) from rfl, dg_non (by decide), dg_blk hb'.1] at i1
    have i2 := dg_sep [48 + d] y 0 hy
    simp only [List.append_assoc]
    have e : ([94] : W) ++ (b' ++ ([48 + d] ++ y)) = 94 :: (b' ++ ([48 + d] ++ y)) := rfl
    rw [e]
    simp at i2 i1 ⊢
    omega
  | neg h h2 hb ih =>
    intro y hy
    simp only [List.append_assoc]
    show dg 0 (45 :: (_ ++ (_ ++ y))) ≤ _
    rw [dg_non (by decide), dg_blk hb.1]
    exact ih y hy
  | @high o l r lv lv' q q' x y0 b b' ho h h2 h' h3 hb hb' i1 i2 =>
    intro y hy
    have a1 := i1 (b ++ ([o.c] ++ (b' ++ (y0 ++ y)))) (sep_blk hb.1 (sep_sgn (op_nd o).2))
    rw [dg_blk hb.1, show ([o.c] : W) ++ (b' ++ (y0 ++ y)) = o.c :: (b' ++ (y0 ++ y)) from rfl, dg_non (op_nd o).1, dg_blk hb'.1] at a1
    have a2 := i2 y hy
    simp only [List.append_assoc]
    have e : ([o.c] : W) ++ (b' ++ (y0 ++ y)) = o.c :: (b' ++ (y0 ++ y)) := rfl
    rw [e]
    omega
  | @low o l r lv lv' q q' x y0 b b' ho h h' h3 hb hb' i1 i2 =>
    intro y hy
    have a1 := i1 (b ++ ([o.c] ++ (b' ++ (y0 ++ y)))) (sep_blk hb.1 (sep_sgn (op_nd o).2))
    rw [dg_blk hb.1, show ([o.c] : W) ++ (b' ++ (y0 ++ y)) = o.c :: (b' ++ (y0 ++ y)) from rfl, dg_non (op_nd o).1, dg_blk hb'.1] at a1
    have a2 := i2 y hy
    simp only [List.append_assoc]
    have e : ([o.c] : W) ++ (b' ++ (y0 ++ y)) = o.c :: (b' ++ (y0 ++ y)) := rfl
    rw [e]
    omega
/-! ### a text of a formula -/
structure Tex (t : Tr) (H : Nat) (x : W) : Prop where
  rd : read x = some t
  dp : ∃ h X, Does x false h X ∧ X ≤ H
  nt : net x = 0
  mx : mxc x ≤ 2 * (H : Int) + 1
  dg : Pl.dg 0 x ≤ 15
  ln : x.length ≤ 30 * size t + 4
theorem lo_tex {t lv q x b b'} (h : Lo t lv q x) (hb : Bl b) (hb' : Bl b') : Tex t (ht t) (b ++ x ++ b') := by
  have hl := lo_lv h
  refine ⟨wrt_read ((lo_wrt h).d (by omega) hl.2 hl.1) hb.1 hb'.1, ?_, ?_, ?_, ?_, ?_⟩
  · obtain ⟨h0, X, i1, i2⟩ := lo_live h
    refine ⟨h0, X, fun f F => ?_, by omega⟩
    obtain ⟨l', e⟩ := i1 f F
    exact ⟨l', by rw [scan_app, scan_app, scan_blk hb.1, e, scan_blk hb'.1]⟩
  · rw [net_app, net_app, net_blk hb.1, net_blk hb'.1, lo_net h]; rfl
  · have := lo_mxc h
    have : b2n q ≤ 1 := by unfold b2n; split <;> decide
    simp only [mxc_app, net_app, mxc_blk hb.1, net_blk hb.1, mxc_blk hb'.1, lo_net h]
    omega
  · have := lo_dg h b' (by have := sep_blk (y := []) hb'.1 (fun _ _ e => nomatch e); simpa using this)
    rw [List.append_assoc, dg_blk hb.1]
    have e : Pl.dg 0 b' = 0 := by have := dg_blk (y := []) hb'.1; simpa [Pl.dg] using this
    omega
  · have h1 := lo_len h
    have := hb.2; have := hb'.2
    simp
    split at h1 <;> omega
theorem bl_nil : Bl [] := ⟨blk_nil, by decide⟩
theorem bl_one : Bl [32] := ⟨blk_one, by decide⟩
theorem lo_brk {t q} (h : Lo t ((wr t).2 + 1) q (wr t).1) (hq : q = false) (k : Nat) (hk : k ≤ 3) : ∃ lv q, k + 1 ≤ lv ∧ Lo t lv q (brk (wr t) k) := by
  subst hq
  have hr := wr_rank t
  unfold brk
  split
  · refine ⟨4, true, by omega, ?_⟩
    have := Lo.br h bl_nil
    simpa using this
  · exact ⟨_, _, by omega, h⟩
theorem lo_wr : ∀ {t : Tr}, ok t → digs t ≤ 15 → Lo t ((wr t).2 + 1) false (wr t).1
  | .num s, h, hd => .num h hd
  | .name s, h, _ => .name h
  | .call s t, h, hd => by
    have z := Lo.call h.1 (lo_wr h.2 hd) bl_nil bl_nil bl_nil
    simpa [wr] using z
  | .neg t, h, hd => by
    obtain ⟨lv, q, h1, h2⟩ := lo_brk (lo_wr (t := t) h hd) rfl 1 (by omega)
    have z := Lo.neg h2 h1 bl_nil
    simpa [wr] using z
  | .pow t d, h, hd => by
    obtain ⟨lv, q, h1, h2⟩ := lo_brk (lo_wr (t := t) h.1 hd) rfl 3 (by omega)
    have hl := lo_lv h2
    have : lv = 4 := by omega
    subst this
    have z := Lo.pow h.2 h2 bl_nil bl_nil
    simpa [wr] using z
  | .op o l r, h, hd => by
    have hd' : digs l ≤ 15 ∧ digs r ≤ 15 := by have : max (digs l) (digs r) ≤ 15 := hd; omega
    cases o with
    | add =>
      obtain ⟨lv, q, h1, h2⟩ := lo_brk (lo_wr h.1 hd'.1) rfl 0 (by omega)
      obtain ⟨lv', q', h3, h4⟩ := lo_brk (lo_wr h.2 hd'.2) rfl 1 (by omega)
      have z := Lo.low (o := .add) rfl h2 h4 h3 bl_one bl_one
      simpa [wr, Op.c, Op.rank, Op.mark] using z
    | sub =>
      obtain ⟨lv, q, h1, h2⟩ := lo_brk (lo_wr h.1 hd'.1) rfl 0 (by omega)
      obtain ⟨lv', q', h3, h4⟩ := lo_brk (lo_wr h.2 hd'.2) rfl 1 (by omega)
      have z := Lo.low (o := .sub) rfl h2 h4 h3 bl_one bl_one
      simpa [wr, Op.c, Op.rank, Op.mark] using z
    | mul =>
      obtain ⟨lv, q, h1, h2⟩ := lo_brk (lo_wr h.1 hd'.1) rfl 1 (by omega)
      obtain ⟨lv', q', h3, h4⟩ := lo_brk (lo_wr h.2 hd'.2) rfl 2 (by omega)
      have z := Lo.high (o := .mul) rfl h2 h1 h4 h3 bl_nil bl_nil
      simpa [wr, Op.c, Op.rank, Op.mark] using z
    | div =>
      obtain ⟨lv, q, h1, h2⟩ := lo_brk (lo_wr h.1 hd'.1) rfl 1 (by omega)
      obtain ⟨lv', q', h3, h4⟩ := lo_brk (lo_wr h.2 hd'.2) rfl 2 (by omega)
      have z := Lo.high (o := .div) rfl h2 h1 h4 h3 bl_nil bl_nil
      simpa [wr, Op.c, Op.rank, Op.mark] using z
theorem tex_txt {t : Tr} (h : ok t) (hd : digs t ≤ 15) : Tex t (ht t) (txt t) := by
  have := lo_tex (lo_wr h hd) bl_nil bl_nil
  simpa [txt] using this
/-- txt t ++ ' + 1' -/
theorem tex_plus {t : Tr} (h : ok t) (hd : digs t ≤ 15) : Tex (.op .add t (.num [49])) (ht t + 1) (txt t ++ [32, 43, 32, 49]) := by
  have z := lo_tex (Lo.low (o := .add) rfl (lo_wr h hd) (Lo.num (w := [49]) (by decide) (by decide)) (by decide) bl_one bl_one) bl_nil bl_nil
  have e : ht (.op .add t (.num [49])) = ht t + 1 := by show max (ht t) 0 + 1 = _; omega
  rw [e] at z
  simpa [txt, Op.c] using z
theorem ins_dg {s : W} (h : Ins s) : dg 0 s ≤ 1 ∧ cnt false s ≤ 1 ∧ s.length ≤ 4 ∧ mxc s ≤ 1 ∧ -1 ≤ net s ∧ net s ≤ 1 := by
  rcases h with rfl | ⟨c, rfl⟩ | rfl | rfl
  · decide
  · refine ⟨?_, ?_, by simp, ?_, ?_, ?_⟩
    · simp only [dg]; split <;> omega
    · simp only [cnt]; split
      · simp
      · split <;> simp
    · simp only [mxc]; split
      · omega
      · split <;> omega
    · simp only [net]; split
      · omega
      · split <;> omega
    · simp only [net]; split
      · omega
      · split <;> omega
  · decide
  · decide
/-- the bounds of what a bent text says -/
theorem bent_ok {t t' : Tr} {H : Nat} {a r b s : W} (h : Tex t H (a ++ r ++ b)) (hr : r = [] ∨ ∃ c, r = [c]) (hs : Ins s) (ht : read (a ++ s ++ b) = some t') : digs t' ≤ 31 ∧ bd t' ≤ H + 1 ∧ size t' ≤ size t + 2 := by
  obtain ⟨i1, i2, _⟩ := ins_dg hs
  refine ⟨?_, ?_, ?_⟩
  · have := read_digs ht
    have := dg_bent a r b s
    have := h.dg
    omega
  · obtain ⟨h0, X, x1, x2⟩ := h.dp
    have := bent_depth x1 h.nt hr hs ht
    omega
  · have h1 := read_size ht
    have h2 := cnt_bent a r b s
    have h3 := read_size h.rd
    omega
theorem bent_len {t : Tr} {H : Nat} {a r b s : W} (h : Tex t H (a ++ r ++ b)) (hr : r = [] ∨ ∃ c, r = [c]) (hs : Ins s) : (a ++ s ++ b).length ≤ 30 * size t + 8 ∧ mxc (a ++ s ++ b) ≤ 2 * (H : Int) + 3 := by
  obtain ⟨_, _, i3, i4, i5, i6⟩ := ins_dg hs
  have h1 := h.ln
  have h2 := h.mx
  constructor
  · simp at h1 ⊢; omega
  · have hr2 : -1 ≤ net r ∧ net r ≤ 1 := (ins_dg (hr.imp id .inl)).2.2.2.2
    have p := mxc_pos r
    have p2 := mxc_pos b
    simp only [mxc_app, net_app] at h2 ⊢
    omega
/-! ### the grown formulas -/
def nn : Nat → Nat | 0 => 1 | 1 => 4 | 2 => 10 | _ => 22
def nodes (t : Tr) : Nat := (pst t).length
theorem size_nodes : ∀ t : Tr, nodes t ≤ size t ∧ size t ≤ 2 * nodes t
  | .num s => ⟨Nat.le_refl _, by show 1 ≤ 2 * 1; decide⟩
  | .name s => ⟨Nat.le_refl _, by show 1 ≤ 2 * 1; decide⟩
  | .call s t => by have := size_nodes t; simp only [nodes, pst, size, List.length_append, List.length_singleton] at *; omega
  | .neg t => by have := size_nodes t; simp only [nodes, pst, size, List.length_append, List.length_singleton] at *; omega
  | .pow t d => by have := size_nodes t; simp only [nodes, pst, size, List.length_append, List.length_singleton] at *; omega
  | .op o l r => by have := size_nodes l; have := size_nodes r; simp only [nodes, pst, size, List.length_append, List.length_singleton] at *; omega
/-- after i steps -/
def Grn (i : Nat) (t : Tr) : Prop := ok t ∧ digs t ≤ 15 ∧ (size t ≤ 47 + 4 * i ∧ size t + 3 ≤ 4 * 2 ^ i) ∧ ∃ e, e ≤ 3 ∧ ht t ≤ i + e ∧ nn e ≤ nodes t
theorem nn_le {e : Nat} (h : e ≤ 3) : nn e = 1 ∧ e = 0 ∨ nn e = 4 ∧ e = 1 ∨ nn e = 10 ∧ e = 2 ∨ nn e = 22 ∧ e = 3 := by
  have : e = 0 ∨ e = 1 ∨ e = 2 ∨ e = 3 := by omega
  rcases this with rfl | rfl | rfl | rfl <;> decide
theorem grn_leaf {t : Tr} (h : ok t) (hd : digs t ≤ 15) (h1 : ht t = 0) (h2 : nodes t = 1) (h3 : size t = 1) : Grn 0 t := ⟨h, hd, ⟨by omega, by rw [h3]; decide⟩, 0, by decide, by omega, by rw [h2]; decide⟩
/-- a sign behind -/
theorem grn_un {i : Nat} {t u : Tr} (h : Grn i t) (hu : ok u) (hd : digs u = digs t) (h1 : ht u = ht t + 1) (h2 : nodes u = nodes t + 1) (h3 : size u ≤ size t + 2) : Grn (i + 1) u := by
  obtain ⟨a, b, c, e, d1, d2, d3⟩ := h
  have hw : 1 ≤ 2 ^ i := Nat.one_le_two_pow
  have hs : 2 ^ (i + 1) = 2 ^ i * 2 := Nat.pow_succ 2 i
  exact ⟨hu, by omega, by omega, e, d1, by omega, by omega⟩
/-- a leaf, perhaps with a sign behind it -/
def Small (p : Tr) : Prop := ok p ∧ digs p ≤ 15 ∧ ((ht p = 0 ∧ nodes p = 1 ∧ size p = 1) ∨ (ht p = 1 ∧ nodes p = 2 ∧ size p ≤ 3))
theorem grn_small {i : Nat} {t p u : Tr} (h : Grn i t) (hp : Small p) (hu : ok u) (hd : digs u = max (digs t) (digs p)) (h1 : ht u = max (ht t) (ht p) + 1) (h2 : nodes u = nodes t + nodes p + 1) (h3 : size u = size t + size p + 1) : Grn (i + 1) u := by
  obtain ⟨a, b, c, e, d1, d2, d3⟩ := h
  obtain ⟨p1, p2, p3⟩ := hp
  have hw : 1 ≤ 2 ^ i := Nat.one_le_two_pow
  have hs : 2 ^ (i + 1) = 2 ^ i * 2 := Nat.pow_succ 2 i
  by_cases z : max (ht t) (ht p) ≤ i + e
  · exact ⟨hu, by omega, by omega, e, d1, by omega, by omega⟩
  · have he : e = 0 := by omega
    subst he
    refine ⟨hu, by omega, by omega, 1, by decide, by omega, ?_⟩
    have : nn 0 = 1 := rfl
    have : nn 1 = 4 := rfl
    omega
/-- the formula itself, perhaps with a sign behind it -/
def Twin (t p : Tr) : Prop := ok p ∧ digs p = digs t ∧ ((ht p = ht t ∧ nodes p = nodes t ∧ size p = size t) ∨ (ht p = ht t + 1 ∧ nodes p = nodes t + 1 ∧ size p ≤ size t + 2))
theorem grn_twin {i : Nat} {t p u : Tr} (h : Grn i t) (hn : nodes t < 12) (hp : Twin t p) (hu : ok u) (hd : digs u = max (digs t) (digs p)) (h1 : ht u = max (ht t) (ht p) + 1) (h2 : nodes u = nodes t + nodes p + 1) (h3 : size u = size t + size p + 1) : Grn (i + 1) u := by
  obtain ⟨a, b, c, e, d1, d2, d3⟩ := h
  obtain ⟨p1, p2, p3⟩ := hp
  have hw : 1 ≤ 2 ^ i := Nat.one_le_two_pow
  have hs : 2 ^ (i + 1) = 2 ^ i * 2 := Nat.pow_succ 2 i
  have := size_nodes t
  rcases p3 with ⟨q1, q2, q3⟩ | ⟨q1, q2, q3⟩
  · exact ⟨hu, by omega, by omega, e, d1, by omega, by omega⟩
  · refine ⟨hu, by omega, by omega, e + 1, ?_, by omega, ?_⟩
    · rcases nn_le d1 with z | z | z | z <;> omega
    · rcases nn_le d1 with ⟨z1, rfl⟩ | ⟨z1, rfl⟩ | ⟨z1, rfl⟩ | ⟨z1, rfl⟩
      · show 4 ≤ _; omega
      · show 10 ≤ _; omega
      · show 22 ≤ _; omega
      · omega
theorem grn_bounds {i : Nat} {t : Tr} (h : Grn i t) (hi : i ≤ 14) : ok t ∧ digs t ≤ 15 ∧ ht t ≤ 17 ∧ size t ≤ 103 := by
  obtain ⟨a, b, c, e, d1, d2, d3⟩ := h
  exact ⟨a, b, by omega, by omega⟩
theorem grn_tiny {i : Nat} {t : Tr} (h : Grn i t) : size t + 3 ≤ 4 * 2 ^ i := h.2.2.1.2
end Pl

set_option linter.all false
/-! # Trees built anew from their steps; nodes -/
namespace Pl
def mk : List Tr → Stp → List Tr
  | S, .num s => .num s :: S
  | S, .name s => .name s :: S
  | t :: S, .call s => .call s t :: S
  | t :: S, .neg => .neg t :: S
  | t :: S, .pow d => .pow t d :: S
  | r :: l :: S, .op o => .op o l r :: S
  | S, _ => S
theorem fold_mk (t : Tr) (S : List Tr) : (pst t).foldl mk S = t :: S :=
  fold_pst mk id (fun _ _ => rfl) (fun _ _ => rfl) (fun _ _ _ => rfl) (fun _ _ => rfl) (fun _ _ _ => rfl) (fun _ _ _ _ => rfl) t S
def ssz : Stp → Nat | .pow _ => 2 | _ => 1
def szs : List Tr → Nat
  | [] => 0
  | t :: S => size t + szs S
def sss : List Stp → Nat
  | [] => 0
  | s :: r => ssz s + sss r
theorem sss_app : ∀ (a b : List Stp), sss (a ++ b) = sss a + sss b
  | [], b => by simp [sss]
  | s :: a, b => by rw [List.cons_append]; simp only [sss, sss_app a b]; omega
theorem sss_pst : ∀ t : Tr, sss (pst t) = size t
  | .num s => rfl
  | .name s => rfl
  | .call s t => by rw [pst, sss_app, sss_pst t]; rfl
  | .neg t => by rw [pst, sss_app, sss_pst t]; rfl
  | .pow t d => by rw [pst, sss_app, sss_pst t]; rfl
  | .op o l r => by rw [pst, sss_app, sss_app, sss_pst l, sss_pst r]; rfl
/-- with numbers of at most forty figures -/
def okd (t : Tr) : Prop := ok t ∧ digs t ≤ 40
def okdS (s : Stp) : Prop := okS s ∧ ∀ w, s = .num w → w.length ≤ 40
theorem okdS_pst {t : Tr} (h : okd t) : ∀ s ∈ pst t, okdS s := fun s hs => ⟨okS_pst h.1 s hs, by
  have key : ∀ (t : Tr) (w : W), Stp.num w ∈ pst t → w.length ≤ digs t := by
    intro t
    induction t with
    | num s => intro w hw; cases List.mem_singleton.mp hw; exact Nat.le_refl _
    | name s => intro w hw; cases List.mem_singleton.mp hw
    | call s t ih => intro w hw; rcases List.mem_append.mp hw with z | z
                     · exact ih w z
                     · cases List.mem_singleton.mp z
    | neg t ih => intro w hw; rcases List.mem_append.mp hw with z | z
                  · exact ih w z
                  · cases List.mem_singleton.mp z
    | pow t d ih => intro w hw; rcases List.mem_append.mp hw with z | z
                    · exact ih w z
                    · cases List.mem_singleton.mp z
    | op o l r i1 i2 =>
      intro w hw
      have e : digs (.op o l r) = max (digs l) (digs r) := rfl
      rcases List.mem_append.mp hw with z | z
      · rcases List.mem_append.mp z with z | z
        · have := i1 w z; omega
        · have := i2 w z; omega
      · cases List.mem_singleton.mp z
  intro w e
  subst e
  exact Nat.le_trans (key t w hs) h.2⟩
/-- the walk over the steps of t: what stands on the stack (its top ahead) -/
structure Stk (t : Tr) (rest : List Stp) (S : List Tr) : Prop where
  fd : fed rest S.length
  fo : rest.foldl mk S = [t]
  ok : ∀ u ∈ S, okd u
  os : ∀ s ∈ rest, okdS s
  sz : szs S + sss rest = size t
theorem Stk.start {t : Tr} (h : okd t) : Stk t (pst t) [] := ⟨by have := (fed_pst t [] 0).mpr trivial; simpa using this, fold_mk t [], fun _ z => (nomatch z), okdS_pst h, by simp [szs, sss_pst]⟩
theorem Stk.done {t : Tr} {S : List Tr} (h : Stk t [] S) : S = [t] := h.fo
theorem Stk.two {t : Tr} {r : List Stp} {S : List Tr} {s : Stp} (h : Stk t (s :: r) S) : s.ar ≤ S.length := h.fd.1
section
variable {t : Tr} {r : List Stp} {S : List Tr}
theorem Stk.num {s : W} (h : Stk t (.num s :: r) S) : (figs s = true ∧ s.length ≤ 40) ∧ Stk t r (.num s :: S) :=
  ⟨⟨(h.os _ List.mem_cons_self).1, (h.os _ List.mem_cons_self).2 s rfl⟩, ⟨h.fd.2, h.fo, fun u hu => (List.mem_cons.mp hu).elim (fun z => z ▸ ⟨(h.os _ List.mem_cons_self).1, (h.os _ List.mem_cons_self).2 s rfl⟩) (h.ok u), fun x hx => h.os x (List.mem_cons_of_mem _ hx), by have := h.sz; simp only [szs, sss, ssz, size] at *; omega⟩⟩
theorem Stk.name {s : W} (h : Stk t (.name s :: r) S) : isName s = true ∧ Stk t r (.name s :: S) :=
  ⟨(h.os _ List.mem_cons_self).1, ⟨h.fd.2, h.fo, fun u hu => (List.mem_cons.mp hu).elim (fun z => z ▸ ⟨(h.os _ List.mem_cons_self).1, Nat.zero_le _⟩) (h.ok u), fun x hx => h.os x (List.mem_cons_of_mem _ hx), by have := h.sz; simp only [szs, sss, ssz, size] at *; omega⟩⟩
theorem one_of {n : Nat} (h : n ≤ S.length) (hn : 1 ≤ n) : ∃ u S', S = u :: S' := by
  cases S with
  | nil => simp at h; omega
  | cons u S' => exact ⟨u, S', rfl⟩
theorem Stk.call {s : W} (h : Stk t (.call s :: r) S) : isCall s = true ∧ ∃ u S', S = u :: S' ∧ okd u ∧ Stk t r (.call s u :: S') := by
  have hs : isCall s = true := (h.os _ List.mem_cons_self).1
  obtain ⟨u, S', rfl⟩ := one_of h.two (Nat.le_refl _)
  have hu := h.ok u List.mem_cons_self
  refine ⟨hs, u, S', rfl, hu, ⟨h.fd.2, h.fo, fun v hv => (List.mem_cons.mp hv).elim (fun z => z ▸ ⟨⟨hs, hu.1⟩, hu.2⟩) fun z => h.ok v (List.mem_cons_of_mem _ z), fun x hx => h.os x (List.mem_cons_of_mem _ hx), by have := h.sz; simp only [szs, sss, ssz, size] at *; omega⟩⟩
theorem Stk.neg (h : Stk t (.neg :: r) S) : ∃ u S', S = u :: S' ∧ okd u ∧ Stk t r (.neg u :: S') := by
  obtain ⟨u, S', rfl⟩ := one_of h.two (Nat.le_refl _)
  have hu := h.ok u List.mem_cons_self
  refine ⟨u, S', rfl, hu, ⟨h.fd.2, h.fo, fun v hv => (List.mem_cons.mp hv).elim (fun z => z ▸ hu) fun z => h.ok v (List.mem_cons_of_mem _ z), fun x hx => h.os x (List.mem_cons_of_mem _ hx), by have := h.sz; simp only [szs, sss, ssz, size] at *; omega⟩⟩
theorem Stk.pow {d : Nat} (h : Stk t (.pow d :: r) S) : d ≤ 9 ∧ ∃ u S', S = u :: S' ∧ okd u ∧ Stk t r (.pow u d :: S') := by
  have hs : d ≤ 9 := (h.os _ List.mem_cons_self).1
  obtain ⟨u, S', rfl⟩ := one_of h.two (Nat.le_refl _)
  have hu := h.ok u List.mem_cons_self
  refine ⟨hs, u, S', rfl, hu, ⟨h.fd.2, h.fo, fun v hv => (List.mem_cons.mp hv).elim (fun z => z ▸ ⟨⟨hu.1, hs⟩, hu.2⟩) fun z => h.ok v (List.mem_cons_of_mem _ z), fun x hx => h.os x (List.mem_cons_of_mem _ hx), by have := h.sz; simp only [szs, sss, ssz, size] at *; omega⟩⟩
theorem Stk.op {o : Op} (h : Stk t (.op o :: r) S) : ∃ b a S', S = b :: a :: S' ∧ okd a ∧ okd b ∧ Stk t r (.op o a b :: S') := by
  have h2 : 2 ≤ S.length := h.two
  obtain ⟨b, S1, rfl⟩ := one_of h2 (by omega)
  obtain ⟨a, S', rfl⟩ := one_of (S := S1) (n := 1) (by simp at h2; omega) (Nat.le_refl _)
  have hb := h.ok b List.mem_cons_self
  have ha := h.ok a (List.mem_cons_of_mem _ List.mem_cons_self)
  refine ⟨b, a, S', rfl, ha, hb, ⟨h.fd.2, h.fo, fun v hv => (List.mem_cons.mp hv).elim (fun z => z ▸ ⟨⟨ha.1, hb.1⟩, Nat.max_le.mpr ⟨ha.2, hb.2⟩⟩) fun z => h.ok v (List.mem_cons_of_mem _ (List.mem_cons_of_mem _ z)), fun x hx => h.os x (List.mem_cons_of_mem _ hx), by have := h.sz; simp only [szs, sss, ssz, size] at *; omega⟩⟩
end
theorem size_pos : ∀ t : Tr, 1 ≤ size t
  | .num _ => Nat.le_refl _
  | .name _ => Nat.le_refl _
  | .call _ t => by simp only [size]; omega
  | .neg t => by simp only [size]; omega
  | .pow t _ => by simp only [size]; omega
  | .op _ l r => by simp only [size]; omega
theorem szs_len : ∀ S : List Tr, S.length ≤ szs S
  | [] => Nat.le_refl _
  | t :: S => by have := size_pos t; have := szs_len S; simp only [szs, List.length_cons]; omega
theorem szs_mem : ∀ {S : List Tr} {u : Tr}, u ∈ S → size u ≤ szs S
  | t :: S, u, h => by
    rcases List.mem_cons.mp h with rfl | h
    · simp only [szs]; omega
    · have := szs_mem h; simp only [szs]; omega
theorem Stk.len {t : Tr} {r : List Stp} {S : List Tr} (h : Stk t r S) : S.length ≤ size t := by have := h.sz; have := szs_len S; omega
theorem Stk.mem {t : Tr} {r : List Stp} {S : List Tr} (h : Stk t r S) {u : Tr} (hu : u ∈ S) : size u ≤ size t := by have := h.sz; have := szs_mem hu; omega
/-! ### nodes -/
def nds : Tr → List Tr
  | .num s => [.num s]
  | .name s => [.name s]
  | .call s t => nds t ++ [.call s t]
  | .neg t => nds t ++ [.neg t]
  | .pow t d => nds t ++ [.pow t d]
  | .op o l r => nds l ++ nds r ++ [.op o l r]
def root : Tr → Stp
  | .num s => .num s
  | .name s => .name s
  | .call s _ => .call s
  | .neg _ => .neg
  | .pow _ d => .pow d
  | .op o _ _ => .op o
theorem nds_root : ∀ t, (nds t).map root = pst t
  | .num s => rfl
  | .name s => rfl
  | .call s t => by simp [nds, pst, nds_root t, root]
  | .neg t => by simp [nds, pst, nds_root t, root]
  | .pow t d => by simp [nds, pst, nds_root t, root]
  | .op o l r => by simp [nds, pst, nds_root l, nds_root r, root]
/-- the trees within, from the left -/
def kids : Tr → List Tr
  | .call _ t => [t]
  | .neg t => [t]
  | .pow t _ => [t]
  | .op _ l r => [l, r]
  | _ => []
/-- the nodes in the order in which they are met: those of the last one first -/
def pre (t : Tr) : List Tr := (nds t).reverse
def pres : List Tr → List Tr
  | [] => []
  | t :: S => pre t ++ pres S
theorem pres_app : ∀ (a b : List Tr), pres (a ++ b) = pres a ++ pres b
  | [], b => rfl
  | t :: a, b => by rw [List.cons_append]; simp only [pres, pres_app a b, List.append_assoc]
theorem pre_eq (t : Tr) : pre t = t :: pres (kids t).reverse := by
  cases t <;> simp [pre, nds, kids, pres]
theorem nodes_len : ∀ t, (nds t).length = nodes t := fun t => by
  have := congrArg List.length (nds_root t)
  rw [List.length_map] at this
  exact this
theorem nds_ok : ∀ {t}, ok t → ∀ u ∈ nds t, ok u
  | .num s, h, u, hu => by cases List.mem_singleton.mp hu; exact h
  | .name s, h, u, hu => by cases List.mem_singleton.mp hu; exact h
  | .call s t, h, u, hu => by
    rcases List.mem_append.mp hu with z | z
    · exact nds_ok h.2 u z
    · cases List.mem_singleton.mp z; exact h
  | .neg t, h, u, hu => by
    rcases List.mem_append.mp hu with z | z
    · exact nds_ok (t := t) h u z
    · cases List.mem_singleton.mp z; exact h
  | .pow t d, h, u, hu => by
    rcases List.mem_append.mp hu with z | z
    · exact nds_ok h.1 u z
    · cases List.mem_singleton.mp z; exact h
  | .op o l r, h, u, hu => by
    rcases List.mem_append.mp hu with z | z
    · rcases List.mem_append.mp z with z | z
      · exact nds_ok h.1 u z
      · exact nds_ok h.2 u z
    · cases List.mem_singleton.mp z; exact h
theorem brk_len (p : W × Nat) (k : Nat) : (brk p k).length ≤ p.1.length + 2 := by unfold brk; split <;> simp
theorem wr_len : ∀ {t}, okd t → (wr t).1.length + 2 ≤ 50 * size t
  | .num s, h => by have : s.length ≤ 40 := h.2; show s.length + 2 ≤ 50 * 1; omega
  | .name s, h => by have := name_len h.1; show s.length + 2 ≤ 50 * 1; omega
  | .call s t, h => by
    have := call_len h.1.1
    have := wr_len (t := t) ⟨h.1.2, h.2⟩
    simp only [wr, size]; simp; omega
  | .neg t, h => by
    have := wr_len (t := t) h
    have := brk_len (wr t) 1
    simp only [wr, size]; simp; omega
  | .pow t d, h => by
    have := wr_len (t := t) ⟨h.1.1, h.2⟩
    have := brk_len (wr t) 3
    simp only [wr, size]; simp; omega
  | .op o l r, h => by
    have hd : digs l ≤ 40 ∧ digs r ≤ 40 := Nat.max_le.mp h.2
    have := wr_len (t := l) ⟨h.1.1, hd.1⟩
    have := wr_len (t := r) ⟨h.1.2, hd.2⟩
    have := brk_len (wr l) o.rank
    have := brk_len (wr r) (o.rank + 1)
    have : o.mark.length ≤ 3 := by cases o <;> decide
    simp only [wr, size]; simp; omega
/-! ### degrees are small -/
theorem deg_small {f : W → Int} (hf : ∀ s, (f s).natAbs ≤ 7) : ∀ t, ok t → (deg f t).natAbs < 2 ^ (4 * size t + 3)
  | .num s, h => Nat.two_pow_pos _
  | .name s, h => by
    have := hf s
    show (f s).natAbs < 2 ^ (4 * 1 + 3)
    omega
  | .call s t, h => by
    show (1 : Int).natAbs < _
    have : 2 ^ 1 ≤ 2 ^ (4 * size (.call s t) + 3) := Nat.pow_le_pow_right (by decide) (by omega)
    have : (1 : Int).natAbs = 1 := rfl
    omega
  | .neg t, h => by
    have := deg_small hf t h
    exact Nat.lt_of_lt_of_le this (Nat.pow_le_pow_right (by decide) (by simp only [size]; omega))
  | .pow t d, h => by
    have h1 := deg_small hf t h.1
    have hd := h.2
    show (deg f t * d).natAbs < 2 ^ (4 * (size t + 2) + 3)
    rw [Int.natAbs_mul, show 4 * (size t + 2) + 3 = (4 * size t + 3) + 8 by omega, Nat.pow_add]
    have h2 : (d : Int).natAbs = d := rfl
    rw [h2]
    have : (deg f t).natAbs * d ≤ (deg f t).natAbs * 9 := Nat.mul_le_mul_left _ hd
    have p := Nat.two_pow_pos (4 * size t + 3)
    have e : (2 : Nat) ^ 8 = 256 := rfl
    rw [e]
    omega
  | .op o l r, h => by
    have h1 := deg_small hf l h.1
    have h2 := deg_small hf r h.2
    have k1 : 2 ^ (4 * size l + 3) * 2 ≤ 2 ^ (4 * size (.op o l r) + 3) := by
      rw [← Nat.pow_succ]; exact Nat.pow_le_pow_right (by decide) (by simp only [size]; omega)
    have k2 : 2 ^ (4 * size r + 3) * 2 ≤ 2 ^ (4 * size (.op o l r) + 3) := by
      rw [← Nat.pow_succ]; exact Nat.pow_le_pow_right (by decide) (by simp only [size]; omega)
    simp only [deg]
    split
    · split <;> omega
    · omega
end Pl

set_option linter.all false
/-! # The program's reader, word by word -/
namespace Pl
/-- what a word of a text looks like -/
def Wd (w : W) : Prop := (w ≠ [] ∧ ∀ c ∈ w, nsg c = true) ∨ ∃ c, w = [c] ∧ sgn c = true
theorem toks_wd : ∀ {x : W} {ts : List W}, toks x = some ts → ∀ w ∈ ts, Wd w ∧ w.length ≤ x.length
  | [], ts, h => by cases h; exact fun _ z => (nomatch z)
  | c :: r, ts, h => by
    obtain ⟨us, e1, e2⟩ := toks_cases h
    have ih := toks_wd e1
    have ih' : ∀ w ∈ us, Wd w ∧ w.length ≤ (c :: r).length := fun w hw => ⟨(ih w hw).1, by have := (ih w hw).2; simp; omega⟩
    rcases e2 with ⟨hn, ⟨d, r', t, u', e3, hd, e4, e5⟩ | ⟨_, e4⟩⟩ | ⟨hn, hs, e2⟩ | ⟨hn, hb, e2⟩
    · subst e4; subst e5; subst e3
      intro w hw
      rcases List.mem_cons.mp hw with rfl | hw
      · obtain ⟨t2, u2, e6, e7, _⟩ := toks_first e1 hd
        cases e6
        refine ⟨.inl ⟨nofun, fun e he => (List.mem_cons.mp he).elim (fun z => z ▸ hn) (e7 e)⟩, ?_⟩
        have := (ih t List.mem_cons_self).2
        simp at this ⊢; omega
      · exact ih' w (List.mem_cons_of_mem _ hw)
    · subst e4
      intro w hw
      rcases List.mem_cons.mp hw with rfl | hw
      · exact ⟨.inl ⟨nofun, fun e he => by cases List.mem_singleton.mp he; exact hn⟩, by simp⟩
      · exact ih' w hw
    · subst e2
      intro w hw
      rcases List.mem_cons.mp hw with rfl | hw
      · exact ⟨.inr ⟨c, rfl, hs⟩, by simp⟩
      · exact ih' w hw
    · subst e2; exact ih'
theorem toks_len : ∀ {x : W} {ts : List W}, toks x = some ts → ts.length ≤ x.length
  | [], ts, h => by cases h; exact Nat.le_refl _
  | c :: r, ts, h => by
    obtain ⟨us, e1, e2⟩ := toks_cases h
    have ih := toks_len e1
    rcases e2 with ⟨hn, ⟨d, r', t, u', e3, hd, e4, e5⟩ | ⟨_, e4⟩⟩ | ⟨hn, hs, e2⟩ | ⟨hn, hb, e2⟩
    · subst e4; subst e5; simp at ih ⊢; omega
    · subst e4; simp; omega
    · subst e2; simp; omega
    · subst e2; simp; omega
theorem Wd.lt {w : W} (h : Wd w) : ∀ c ∈ w, c < 128 := by
  rcases h with ⟨_, h⟩ | ⟨c, rfl, h⟩
  · intro c hc
    have := h c hc
    unfold nsg let_ dig at this
    simp only [Bool.or_eq_true, Bool.and_eq_true, decide_eq_true_eq] at this
    omega
  · intro d hd
    cases List.mem_singleton.mp hd
    unfold sgn at h
    have h := of_decide_eq_true h
    simp only [List.mem_cons, List.mem_nil_iff, or_false] at h
    omega
def Sg.w : Sg → W | .opn => [40] | .call s => s | .neg => [126] | .op o => [o.c]
structure Rs where
  k : Nat
  T : List Tr
  S : List Sg
  o : Bool
  p : Bool
def nops : List Sg → Nat
  | [] => 0
  | .op _ :: S => nops S + 1
  | _ :: S => nops S
theorem nops_le : ∀ S, nops S ≤ S.length
  | [] => Nat.le_refl _
  | .op _ :: S => Nat.succ_le_succ (nops_le S)
  | .opn :: S => Nat.le_succ_of_le (nops_le S)
  | .neg :: S => Nat.le_succ_of_le (nops_le S)
  | .call _ :: S => Nat.le_succ_of_le (nops_le S)
structure Wf (st : Rs) (n : Nat) : Prop where
  t : st.T.length = nops st.S + (if st.o then 1 else 0)
  s : st.S.length ≤ n
  c : ∀ s, Sg.call s ∈ st.S → isCall s = true
/-- one turn of settling -/
theorem settle_neg {r : Nat} {t : Tr} {T : List Tr} {S : List Sg} (h : r ≤ 1) : settle r (t :: T) (.neg :: S) = settle r (.neg t :: T) S := by
  conv => lhs; unfold settle
  rw [if_pos (show r ≤ Sg.neg.rank from h)]
theorem settle_op {r : Nat} {a b : Tr} {T : List Tr} {S : List Sg} {o : Op} (h : r ≤ (Sg.op o).rank) : settle r (b :: a :: T) (.op o :: S) = settle r (.op o a b :: T) S := by
  conv => lhs; unfold settle
  rw [if_pos h]
/-- what settling leaves -/
theorem settle_wf {r : Nat} (h1 : 1 ≤ r) : ∀ (S : List Sg) (T : List Tr), T.length = nops S + 1 → ∃ T' S', settle r T S = (T', S') ∧ T'.length = nops S' + 1 ∧ S'.length ≤ S.length ∧ (∀ s ∈ S', s ∈ S) ∧ (∀ s S'', S' = s :: S'' → s.rank < r)
  | [], T, h => ⟨T, [], rfl, h, Nat.le_refl _, fun _ z => z, fun _ _ z => nomatch z⟩
  | s :: S, T, h => by
    by_cases hr : r ≤ s.rank
    · cases s with
      | opn => exact absurd hr (by show ¬ r ≤ 0; omega)
      | call z => exact absurd hr (by show ¬ r ≤ 0; omega)
      | neg =>
        match T, h with
        | t :: T, h =>
          obtain ⟨T', S', e, h2, h3, h4, h5⟩ := settle_wf h1 S (.neg t :: T) h
          exact ⟨T', S', by rw [settle_neg hr]; exact e, h2, by simp; omega, fun s hs => List.mem_cons_of_mem _ (h4 s hs), h5⟩
      | op o =>
        match T, h with
        | [b], h => simp [nops] at h
        | b :: a :: T, h =>
          obtain ⟨T', S', e, h2, h3, h4, h5⟩ := settle_wf h1 S (.op o a b :: T) (by simp [nops] at h ⊢; omega)
          exact ⟨T', S', by rw [settle_op hr]; exact e, h2, by simp; omega, fun s hs => List.mem_cons_of_mem _ (h4 s hs), h5⟩
    · refine ⟨T, s :: S, ?_, h, Nat.le_refl _, fun _ z => z, fun s' S'' e => by cases e; omega⟩
      unfold settle; rw [if_neg hr]
/-- whether a sign may stand first at k -/
def fstA (ws : List W) (k : Nat) : Bool := decide (k = 0) || decide (ws[k - 1]? = some [40])
def opnR (st : Rs) (s : Sg) : Option Rs := if st.o then none else some { st with S := s :: st.S }
def closeR (st : Rs) : Option Rs := if st.o then (match settle 1 st.T st.S with
  | (T', .opn :: S') => some ⟨st.k, T', S', true, false⟩
  | (t :: T', .call s :: S') => some ⟨st.k, .call s t :: T', S', true, false⟩
  | _ => none) else none
def raiseR (ws : List W) (st : Rs) : Option Rs := match ws[st.k]?, st.T with
  | some [d], t :: T' => if st.o && !st.p && dig d then some ⟨st.k + 1, .pow t (d - 48) :: T', st.S, true, true⟩ else none
  | _, _ => none
def signR (ws : List W) (st : Rs) (q : Op) : Option Rs := if st.o then some ⟨st.k, (settle (Sg.op q).rank st.T st.S).1, .op q :: (settle (Sg.op q).rank st.T st.S).2, false, st.p⟩
  else if [q.c] = [45] ∧ fstA ws (st.k - 1) = true then some { st with S := .neg :: st.S } else none
def atomR (st : Rs) (w : W) : Option Rs := if st.o then none else if figs w then some ⟨st.k, .num w :: st.T, st.S, true, false⟩ else if isName w then some ⟨st.k, .name w :: st.T, st.S, true, false⟩ else none
def takeR (ws : List W) (st : Rs) (w : W) : Option Rs :=
  if w = [40] then opnR st .opn
  else if w = [41] then closeR st
  else if w = [94] then raiseR ws st
  else match opOf w with
    | some q => signR ws st q
    | none => if isCall w then (if ws[st.k]? = some [40] then opnR { st with k := st.k + 1 } (.call w) else none) else atomR st w
def runA (ws : List W) (st : Rs) : Option Tr := run (fstA ws st.k) st.T st.S st.o st.p (ws.drop st.k)
theorem drop_c {ws : List W} {k : Nat} {w : W} {r : List W} (h : ws.drop k = w :: r) : ws[k]? = some w ∧ r = ws.drop (k + 1) := by
  have hk : k < ws.length := by
    rcases Nat.lt_or_ge k ws.length with z | z
    · exact z
    · rw [List.drop_eq_nil_of_le z] at h; cases h
  rw [List.drop_eq_getElem_cons hk] at h
  cases h
  exact ⟨by simp [hk], rfl⟩
theorem drop_hd (ws : List W) (k : Nat) : (ws.drop k).head? = ws[k]? := by
  rw [List.head?_eq_getElem?, List.getElem?_drop]; rfl
theorem runA_o {ws : List W} {k : Nat} {T : List Tr} {S : List Sg} {p : Bool} (f : Bool) : runA ws ⟨k, T, S, true, p⟩ = run f T S true p (ws.drop k) := run_fst _ _ _ _ _ _
theorem fstA_s {ws : List W} {k : Nat} {w : W} (h : ws[k]? = some w) : fstA ws (k + 1) = decide (w = [40]) := by
  unfold fstA
  rw [decide_eq_false (by omega), Bool.false_or, Nat.add_sub_cancel, h, Bool.eq_iff_iff]
  simp
theorem run_step {ws : List W} {st : Rs} {n : Nat} {w : W} (hw : Wf st n) (hk : ws[st.k]? = some w) : runA ws st = (takeR ws { st with k := st.k + 1 } w).bind (runA ws) := by
  obtain ⟨k, T, S, o, p⟩ := st
  obtain ⟨ht, hs, hc⟩ := hw
  dsimp only at hk ht hs hc ⊢
  have hd : ws.drop k = w :: ws.drop (k + 1) := by
    obtain ⟨hl, e⟩ := List.getElem?_eq_some_iff.mp hk
    rw [List.drop_eq_getElem_cons hl, e]
  conv => lhs; unfold runA; dsimp only; rw [hd]; unfold run
  have rA : ∀ st, runA ws st = run (fstA ws st.k) st.T st.S st.o st.p (ws.drop st.k) := fun _ => rfl
  unfold takeR
  by_cases h1 : w = [40]
  · rw [if_pos h1, if_pos h1]
    unfold opnR
    dsimp only
    cases o with
    | true => rfl
    | false =>
      simp only [Bool.false_eq_true, if_false, Option.bind_some]
      rw [rA, fstA_s hk, decide_eq_true h1]
  rw [if_neg h1, if_neg h1]
  by_cases h2 : w = [41]
  · rw [if_pos h2, if_pos h2]
    unfold closeR
    dsimp only
    cases o with
    | false => rfl
    | true =>
      simp only [if_true]
      obtain ⟨T', S', e, h3, h4, h5, h6⟩ := settle_wf (Nat.le_refl 1) S T ht
      rw [e]
      cases S' with
      | nil => rfl
      | cons s S' =>
        have := h6 s S' rfl
        cases s with
        | opn => cases T' <;> exact run_fst _ _ _ _ _ _
        | call z =>
          cases T' with
          | nil => simp at h3
          | cons t T' => exact run_fst _ _ _ _ _ _
        | neg => exact absurd this (by decide)
        | op q => have := (op_rank q).1; omega
  rw [if_neg h2, if_neg h2]
  by_cases h3 : w = [94]
  · rw [if_pos h3, if_pos h3]
    unfold raiseR
    dsimp only
    cases e : ws.drop (k + 1) with
    | nil =>
      have : ws[k + 1]? = none := by rw [← drop_hd, e]; rfl
      rw [this]; rfl
    | cons d r =>
      obtain ⟨e1, e2⟩ := drop_c e
      rw [e1]
      match d with
      | [] => rfl
      | c1 :: c2 :: d => rfl
      | [c] =>
        cases T with
        | nil => rfl
        | cons t T =>
          dsimp only
          split
          · next hx =>
            have ho : o = true := by revert hx; cases o <;> simp
            subst ho
            rw [Option.bind_some, rA, e2]
            exact run_fst _ _ _ _ _ _
          · rfl
  rw [if_neg h3, if_neg h3]
  cases e : opOf w with
  | some q =>
    have hwq := op_of e
    unfold signR
    dsimp only
    cases o with
    | true =>
      simp only [if_true, Option.bind_some]
      rw [rA, fstA_s hk, decide_eq_false h1]
    | false =>
      simp only [Bool.false_eq_true, if_false, Nat.add_sub_cancel]
      rw [hwq]
      by_cases hc : [q.c] = [45] ∧ fstA ws k = true
      · rw [if_pos hc, if_pos hc]
        rw [Option.bind_some, rA, fstA_s hk, decide_eq_false (hwq ▸ h1)]
      · rw [if_neg hc, if_neg hc]; rfl
  | none =>
    dsimp only
    by_cases hcl : isCall w = true
    · rw [if_pos hcl, if_pos hcl]
      cases e2 : ws.drop (k + 1) with
      | nil =>
        have : ws[k + 1]? = none := by rw [← drop_hd, e2]; rfl
        rw [this]; rfl
      | cons d r =>
        obtain ⟨e3, e4⟩ := drop_c e2
        rw [e3]
        by_cases hd4 : d = [40]
        · subst hd4
          rw [if_pos rfl]
          unfold opnR
          dsimp only
          cases o with
          | true => rfl
          | false =>
            simp only [Bool.false_eq_true, if_false, Option.bind_some]
            rw [rA, fstA_s e3, decide_eq_true rfl, e4]
        · rw [if_neg (by simpa using hd4)]
          match d, hd4 with
          | [], _ => rfl
          | [c], hd4 =>
            split
            · next hx => cases hx; exact absurd rfl hd4
            · rfl
          | _ :: _ :: _, _ =>
            split
            · next hx => cases hx
            · rfl
    · rw [if_neg hcl, if_neg hcl]
      unfold atomR
      dsimp only
      cases o with
      | true => rfl
      | false =>
        simp only [Bool.false_eq_true, if_false]
        split
        · exact run_fst _ _ _ _ _ _
        split
        · exact run_fst _ _ _ _ _ _
        · rfl
theorem opnR_wf {st st' : Rs} {s : Sg} {n : Nat} (h : Wf st n) (hs : ∀ z, s = .call z → isCall z = true) (hn : nops (s :: st.S) = nops st.S) (e : opnR st s = some st') : Wf st' (n + 1) ∧ st.k ≤ st'.k := by
  unfold opnR at e
  split at e
  · cases e
  · next ho =>
    cases e
    refine ⟨⟨?_, ?_, fun z hz => ?_⟩, Nat.le_refl _⟩
    · dsimp only; rw [hn]; exact h.t
    · have := h.s; dsimp only; simp; omega
    · rcases List.mem_cons.mp hz with z1 | z1
      · exact hs z z1.symm
      · exact h.c z z1
theorem takeR_wf {ws : List W} {st st' : Rs} {w : W} {n : Nat} (h : Wf st n) (hw : ∀ z, isCall z = true → z = w → True) (e : takeR ws st w = some st') : Wf st' (n + 1) ∧ st.k ≤ st'.k := by
  unfold takeR at e
  split at e
  · exact opnR_wf (s := .opn) h (fun _ z => nomatch z) rfl e
  split at e
  · unfold closeR at e
    split at e
    · next ho =>
      obtain ⟨T', S', e2, h3, h4, h5, h6⟩ := settle_wf (Nat.le_refl 1) st.S st.T (by rw [h.t, if_pos ho])
      rw [e2] at e
      have hs := h.s
      cases S' with
      | nil => cases T' <;> cases e
      | cons s S' =>
        have hl : S'.length ≤ n + 1 := by simp at h4; omega
        cases s with
        | opn =>
          have e : some (⟨st.k, T', S', true, false⟩ : Rs) = some st' := by cases T' <;> exact e
          cases e
          exact ⟨⟨by dsimp only; rw [h3]; rfl, hl, fun z hz => h.c z (h5 _ (List.mem_cons_of_mem _ hz))⟩, Nat.le_refl _⟩
        | call z =>
          cases T' with
          | nil => cases e
          | cons t T' => cases e; exact ⟨⟨by simpa [nops] using h3, hl, fun z hz => h.c z (h5 _ (List.mem_cons_of_mem _ hz))⟩, Nat.le_refl _⟩
        | neg => cases T' <;> cases e
        | op q => cases T' <;> cases e
    · cases e
  split at e
  · unfold raiseR at e
    split at e
    · next d t T' e1 e2 =>
      split at e
      · next hx =>
        cases e
        have ho : st.o = true := by revert hx; cases st.o <;> simp
        refine ⟨⟨?_, by have := h.s; dsimp only; omega, h.c⟩, Nat.le_succ _⟩
        have := h.t
        rw [e2, ho] at this
        simpa using this
      · cases e
    · cases e
  split at e
  · next q hq =>
    unfold signR at e
    split at e
    · next ho =>
      obtain ⟨T', S', e2, h3, h4, h5, h6⟩ := settle_wf (op_rank q).1 st.S st.T (by rw [h.t, if_pos ho])
      cases e
      dsimp only
      rw [e2]
      have hs := h.s
      refine ⟨⟨by dsimp only; rw [h3]; rfl, by simp; omega, fun z hz => ?_⟩, Nat.le_refl _⟩
      rcases List.mem_cons.mp hz with z1 | z1
      · cases z1
      · exact h.c z (h5 _ z1)
    · next ho =>
      split at e
      · cases e
        have hs := h.s
        refine ⟨⟨by dsimp only; exact h.t, by simp; omega, fun z hz => ?_⟩, Nat.le_refl _⟩
        rcases List.mem_cons.mp hz with z1 | z1
        · cases z1
        · exact h.c z z1
      · cases e
  split at e
  · next hcl =>
    split at e
    · have := opnR_wf (st := { st with k := st.k + 1 }) (n := n) ⟨h.t, h.s, h.c⟩ (fun z hz => by cases hz; exact hcl) rfl e
      exact ⟨this.1, by have := this.2; dsimp only at this; omega⟩
    · cases e
  · unfold atomR at e
    split at e
    · cases e
    next ho =>
    have ht := h.t
    have hs := h.s
    rw [if_neg ho] at ht
    split at e
    · cases e; exact ⟨⟨by simpa using ht, by dsimp only; omega, h.c⟩, Nat.le_refl _⟩
    split at e
    · cases e; exact ⟨⟨by simpa using ht, by dsimp only; omega, h.c⟩, Nat.le_refl _⟩
    · cases e
end Pl

set_option linter.all false
/-! # The grown formulas, step by step -/
namespace Pl
def Leaf (t : Tr) : Prop := ok t ∧ digs t ≤ 15 ∧ ht t = 0 ∧ nodes t = 1 ∧ size t = 1
theorem leaf_name {s : W} (h : isName s = true) : Leaf (.name s) := ⟨h, by show 0 ≤ 15; omega, rfl, rfl, rfl⟩
theorem leaf_num {s : W} (h : figs s = true) (hl : s.length ≤ 15) : Leaf (.num s) := ⟨h, hl, rfl, rfl, rfl⟩
/-- a sign behind one operand -/
def Un (s : Stp) : Prop := s = .neg ∨ (∃ d, d ≤ 9 ∧ s = .pow d) ∨ ∃ z, isCall z = true ∧ s = .call z
theorem un_ap {s : Stp} (h : Un s) (t : Tr) (ht' : ok t) : ∃ u, ok u ∧ pst u = pst t ++ [s] ∧ digs u = digs t ∧ ht u = ht t + 1 ∧ nodes u = nodes t + 1 ∧ size u ≤ size t + 2 := by
  rcases h with rfl | ⟨d, hd, rfl⟩ | ⟨z, hz, rfl⟩
  · exact ⟨.neg t, ht', rfl, rfl, rfl, by simp [nodes, pst], by show size t + 1 ≤ _; omega⟩
  · exact ⟨.pow t d, ⟨ht', hd⟩, rfl, rfl, rfl, by simp [nodes, pst], Nat.le_refl _⟩
  · exact ⟨.call z t, ⟨hz, ht'⟩, rfl, rfl, rfl, by simp [nodes, pst], by show size t + 1 ≤ _; omega⟩
/-- a piece without, with a sign -/
def Pie0 (t p : Tr) : Prop := Leaf p ∨ (nodes t < 12 ∧ p = t)
def Pie (t p : Tr) : Prop := Small p ∨ (nodes t < 12 ∧ Twin t p)
theorem Pie0.ok {t p : Tr} (h : Pie0 t p) (ht' : ok t) : ok p := by
  rcases h with h | ⟨_, rfl⟩
  · exact h.1
  · exact ht'
theorem Pie0.pie {t p : Tr} (h : Pie0 t p) (ht' : Pl.ok t) : Pie t p := by
  rcases h with ⟨h1, h2, h3, h4, h5⟩ | ⟨h1, rfl⟩
  · exact .inl ⟨h1, h2, .inl ⟨h3, h4, h5⟩⟩
  · exact .inr ⟨h1, ht', rfl, .inl ⟨rfl, rfl, rfl⟩⟩
theorem Pie0.un {t p : Tr} (h : Pie0 t p) (ht' : Pl.ok t) {s : Stp} (hs : Un s) : ∃ u, pst u = pst p ++ [s] ∧ Pie t u := by
  obtain ⟨u, h1, h2, h3, h4, h5, h6⟩ := un_ap hs p (h.ok ht')
  refine ⟨u, h2, ?_⟩
  rcases h with ⟨a1, a2, a3, a4, a5⟩ | ⟨a1, rfl⟩
  · exact .inl ⟨h1, by omega, .inr ⟨by omega, by omega, by omega⟩⟩
  · exact .inr ⟨a1, h1, h3, .inr ⟨h4, h5, h6⟩⟩
theorem Pie.ok {t p : Tr} (h : Pie t p) : Pl.ok p := by
  rcases h with h | ⟨_, h⟩
  · exact h.1
  · exact h.1
theorem pie_op {i : Nat} {t p : Tr} (h : Grn i t) (hp : Pie t p) (o : Op) : Grn (i + 1) (.op o t p) ∧ Grn (i + 1) (.op o p t) := by
  have n1 : nodes (.op o t p) = nodes t + nodes p + 1 := by simp [nodes, pst]; omega
  have n2 : nodes (.op o p t) = nodes t + nodes p + 1 := by simp [nodes, pst]; omega
  have s2 : size (.op o p t) = size t + size p + 1 := by show size p + size t + 1 = _; omega
  have d2 : digs (.op o p t) = max (digs t) (digs p) := Nat.max_comm _ _
  have h2 : ht (.op o p t) = max (ht t) (ht p) + 1 := by show max (ht p) (ht t) + 1 = _; rw [Nat.max_comm]
  have ho := hp.ok
  rcases hp with hp | ⟨hn, hp⟩
  · exact ⟨grn_small h hp ⟨h.1, ho⟩ rfl rfl n1 rfl, grn_small h hp ⟨ho, h.1⟩ d2 h2 n2 s2⟩
  · exact ⟨grn_twin h hn hp ⟨h.1, ho⟩ rfl rfl n1 rfl, grn_twin h hn hp ⟨ho, h.1⟩ d2 h2 n2 s2⟩
theorem grn_ap {i : Nat} {t : Tr} (h : Grn i t) {s : Stp} (hs : Un s) : ∃ u, pst u = pst t ++ [s] ∧ Grn (i + 1) u := by
  obtain ⟨u, h1, h2, h3, h4, h5, h6⟩ := un_ap hs t h.1
  exact ⟨u, h2, grn_un h h1 h3 h4 h5 h6⟩
theorem Leaf.grn {t : Tr} (h : Leaf t) : Grn 0 t := grn_leaf h.1 h.2.1 h.2.2.1 h.2.2.2.1 h.2.2.2.2
theorem Grn.small {i : Nat} {t : Tr} (h : Grn i t) (hi : i ≤ 15) : nodes t ≤ 110 := by
  obtain ⟨a, b, c, d⟩ := h
  have := size_nodes t
  omega
end Pl

set_option linter.all false
/-! # The law's reader: what is left, what is made -/
namespace Pl
theorem gr_len : ∀ {k t c}, Gr k t c → (pst t).length ≤ c.length := by
  intro k t c h
  induction h with
  | num h => exact Nat.le_refl _
  | name h => exact Nat.le_refl _
  | br h ih => simp; omega
  | call hw h ih => simp [pst]; omega
  | pow hd h ih => simp [pst]; omega
  | high ho h h2 i1 i2 => simp [pst]; omega
  | low ho h h2 i1 i2 => simp [pst]; omega
  | neg h ih => simp [pst]; omega
  | up h h0 ih => exact ih
theorem cut_at {k : Nat} {f : Pa} (h : Cuts k f) {ws : List W} {i : Nat} {t : Tr} {r : List W} (e : f (ws.drop i) = some (t, r)) (hi : i ≤ ws.length) : ∃ j, r = ws.drop j ∧ i ≤ j ∧ j ≤ ws.length ∧ (pst t).length ≤ j - i := by
  obtain ⟨c, e1, e2⟩ := h _ _ _ e
  have hl := congrArg List.length e1
  rw [List.length_drop, List.length_append] at hl
  refine ⟨i + c.length, ?_, by omega, by omega, by have := gr_len e2; omega⟩
  rw [← List.drop_drop, e1, List.drop_left]
theorem cut_len {k : Nat} {f : Pa} (h : Cuts k f) {ws : List W} {i j : Nat} {t : Tr} (e : f (ws.drop i) = some (t, ws.drop j)) (hi : i ≤ ws.length) (hj : j ≤ ws.length) : (pst t).length ≤ j - i := by
  obtain ⟨j2, e1, h1, h2, h3⟩ := cut_at h e hi
  have := congrArg List.length e1
  rw [List.length_drop, List.length_drop] at this
  omega
theorem chain_stop {hit : W → Option Op} {f : Pa} (t : Tr) : ∀ (k : Nat) (ts : List W), ts.length ≤ k → (∀ w r, ts = w :: r → hit w = none) → chain hit f k t ts = some (t, ts)
  | 0, ts, h, _ => by rw [List.length_eq_zero_iff.mp (Nat.le_zero.mp h)]; rfl
  | k + 1, [], _, _ => rfl
  | k + 1, w :: r, _, hw => by unfold chain; dsimp only; rw [hw w r rfl]
theorem chain_go {hit : W → Option Op} {f : Pa} (t : Tr) {k : Nat} {w : W} {r : List W} {o : Op} (h : (w :: r).length ≤ k) (hw : hit w = some o) : ∃ k', r.length ≤ k' ∧ chain hit f k t (w :: r) = match f r with
    | none => none
    | some (u, r') => chain hit f k' (.op o t u) r' := by
  cases k with
  | zero => simp at h
  | succ k => exact ⟨k, by simpa using h, by
    conv => lhs; unfold chain
    dsimp only
    rw [hw]
    all_goals (cases f r <;> rfl)⟩
/-- the word at i, a dot behind the end -/
def tok (ws : List W) (i : Nat) : W := (ws ++ [[46], [46]]).getD i []
theorem tok_in {ws : List W} {i : Nat} (h : i < ws.length) : tok ws i = ws[i] ∧ ws.drop i = ws[i] :: ws.drop (i + 1) := by
  refine ⟨?_, List.drop_eq_getElem_cons h⟩
  unfold tok
  rw [List.getD_eq_getElem?_getD, List.getElem?_append_left h]
  simp [h]
theorem tok_out {ws : List W} {i : Nat} (h : ws.length ≤ i) (h2 : i ≤ ws.length + 1) : tok ws i = [46] ∧ ws.drop i = [] := by
  refine ⟨?_, List.drop_eq_nil_of_le h⟩
  unfold tok
  rw [List.getD_eq_getElem?_getD, List.getElem?_append_right h]
  have : i - ws.length = 0 ∨ i - ws.length = 1 := by omega
  rcases this with z | z <;> rw [z] <;> rfl
theorem tok_eq {ws : List W} {i : Nat} {w : W} (h : i ≤ ws.length + 1) (hw : w ≠ [46]) : (tok ws i = w) ↔ (ws.drop i).head? = some w := by
  by_cases c : i < ws.length
  · obtain ⟨e1, e2⟩ := tok_in c
    rw [e1, e2, List.head?_cons]
    exact ⟨fun z => by rw [z], fun z => Option.some.inj z⟩
  · obtain ⟨e1, e2⟩ := tok_out (by omega) h
    rw [e1, e2]
    simp
    exact fun z => hw z.symm
theorem br_some {s : Pa} {r : List W} {t : Tr} {r' : List W} (h : s r = some (t, [41] :: r')) : pAtom s ([40] :: r) = some (t, r') := by
  unfold pAtom; dsimp only; rw [if_pos rfl, h]; rfl
theorem br_none {s : Pa} {r : List W} (h : s r = none) : pAtom s ([40] :: r) = none := by
  unfold pAtom; dsimp only; rw [if_pos rfl, h]
theorem br_inv {s : Pa} {r : List W} {t t' : Tr} {r1 r2 : List W} (h : s r = some (t, r1)) (hy : pAtom s ([40] :: r) = some (t', r2)) : ∃ r', r1 = [41] :: r' := by
  unfold pAtom at hy; dsimp only at hy; rw [if_pos rfl, h] at hy
  split at hy
  · next e => cases e; exact ⟨_, rfl⟩
  · cases hy
theorem atom_call {s : Pa} {w : W} {r : List W} (h : isCall w = true) : pAtom s (w :: [40] :: r) = (pAtom s ([40] :: r)).map fun p => (.call w p.1, p.2) := by
  have hn := (call_ne h).1
  unfold pAtom
  dsimp only
  rw [if_neg hn, if_pos ⟨h, rfl⟩, if_pos rfl]
  dsimp only [List.tail_cons]
  split <;> rfl
theorem atom_word {s : Pa} {w : W} {r : List W} (h0 : w ≠ [40]) (h : ¬ (isCall w = true ∧ r.head? = some [40])) : pAtom s (w :: r) = if figs w then some (.num w, r) else if isName w then some (.name w, r) else none := by
  conv => lhs; unfold pAtom
  dsimp only
  rw [if_neg h0, if_neg h]
theorem pow_none {s : Pa} {ts : List W} (h : pAtom s ts = none) : pPow s ts = none := by unfold pPow; rw [h]
theorem pow_id {s : Pa} {ts : List W} {t : Tr} {r : List W} (h : pAtom s ts = some (t, r)) (hr : r.head? ≠ some [94]) : pPow s ts = some (t, r) := by
  unfold pPow; rw [h]
  cases r with
  | nil => rfl
  | cons w r => dsimp only; rw [if_neg (fun z => hr (by rw [z]; rfl))]
theorem pow_yes {s : Pa} {ts : List W} {t : Tr} {d : Nat} {r : List W} (h : pAtom s ts = some (t, [94] :: [d] :: r)) (hd : dig d = true) : pPow s ts = some (.pow t (d - 48), r) := by
  unfold pPow; rw [h]; dsimp only; rw [if_pos rfl, if_pos hd]
theorem pow_bad {s : Pa} {ts : List W} {t : Tr} {r : List W} (h : pAtom s ts = some (t, [94] :: r)) (hd : ∀ d r', r = [d] :: r' → dig d = false) : pPow s ts = none := by
  unfold pPow; rw [h]; dsimp only; rw [if_pos rfl]
  split
  · next d r' => rw [hd d r' rfl]; rfl
  · rfl
theorem prod_none {s : Pa} {ts : List W} (h : pPow s ts = none) : pProd s ts = none := by unfold pProd; rw [h]
theorem prod_some {s : Pa} {ts : List W} {t : Tr} {r : List W} (h : pPow s ts = some (t, r)) : pProd s ts = chain highOp (pPow s) r.length t r := by unfold pProd; rw [h]
theorem sum_none {s : Pa} {ts : List W} {m : Bool} (hm : m = decide (ts.head? = some [45])) (h : pProd s (if m then ts.tail else ts) = none) : pSum s ts = none := by subst hm; unfold pSum; dsimp only; rw [h]
theorem sum_some {s : Pa} {ts : List W} {m : Bool} {t : Tr} {r : List W} (hm : m = decide (ts.head? = some [45])) (h : pProd s (if m then ts.tail else ts) = some (t, r)) : pSum s ts = chain lowOp (pProd s) r.length (if m then .neg t else t) r := by subst hm; unfold pSum; dsimp only; rw [h]
theorem high_tok {w : W} : decide (w ∈ [[42], [47]]) = (highOp w).isSome := by
  unfold highOp
  by_cases h : w = [42]
  · subst h; rfl
  by_cases h2 : w = [47]
  · subst h2; rfl
  rw [if_neg h, if_neg h2]
  simp [h, h2]
theorem low_tok {w : W} : decide (w ∈ [[43], [45]]) = (lowOp w).isSome := by
  unfold lowOp
  by_cases h : w = [43]
  · subst h; rfl
  by_cases h2 : w = [45]
  · subst h2; rfl
  rw [if_neg h, if_neg h2]
  simp [h, h2]
theorem high_w {w : W} {o : Op} (h : highOp w = some o) : w = [o.c] := by
  unfold highOp at h
  split at h
  · cases h; assumption
  split at h
  · cases h; assumption
  · cases h
theorem low_w {w : W} {o : Op} (h : lowOp w = some o) : w = [o.c] := by
  unfold lowOp at h
  split at h
  · cases h; assumption
  split at h
  · cases h; assumption
  · cases h
end Pl

set_option Elab.async false
set_option linter.all false
set_option autoImplicit false
set_option maxRecDepth 100000
/-! # The text of the law k01 and what stands where behind the top -/
namespace F1
open PySem L2 Y
def topS (i : Nat) : Stmt := PySem.Challenge.pw_callsleft_k01_formulas_read_and_put_in.main.body.getD i (.Pass ⟨0, 0, 0, 0⟩)
/-! BadFormula.__init__: slots 0 self 1 why -/
abbrev s_BadFormula_init : Stmt := inClass (topS 1) 0
theorem sc_BadFormula_init : FnScope ["self", "why"] ["self", "why"] (defScope s_BadFormula_init) := ⟨rfl, rfl, rfl, by decide +kernel, rfl, by decide +kernel, by decide +kernel⟩
/-! NoSuch.__init__: slots 0 self 1 name -/
abbrev s_NoSuch_init : Stmt := inClass (topS 3) 0
theorem sc_NoSuch_init : FnScope ["self", "name"] ["self", "name"] (defScope s_NoSuch_init) := ⟨rfl, rfl, rfl, by decide +kernel, rfl, by decide +kernel, by decide +kernel⟩
/-! is_digits: slots 0 text -/
abbrev s_is_digits : Stmt := topS 5
theorem sc_is_digits : FnScope ["text"] ["text"] (defScope s_is_digits) := ⟨rfl, rfl, rfl, by decide +kernel, rfl, by decide +kernel, by decide +kernel⟩
/-! is_name: slots 0 value 1 sign -/
abbrev s_is_name : Stmt := topS 11
theorem sc_is_name : FnScope ["value", "sign"] ["value"] (defScope s_is_name) := ⟨rfl, rfl, rfl, by decide +kernel, rfl, by decide +kernel, by decide +kernel⟩
/-! split_words: slots 0 text 1 words 2 at 3 sign 4 end -/
abbrev s_split_words : Stmt := topS 23
theorem sc_split_words : FnScope ["text", "words", "at", "sign", "end"] ["text"] (defScope s_split_words) := ⟨rfl, rfl, rfl, by decide +kernel, rfl, by decide +kernel, by decide +kernel⟩
/-! TreeReader.__init__: slots 0 self 1 words -/
abbrev s_TreeReader_init : Stmt := inClass (topS 24) 0
theorem sc_TreeReader_init : FnScope ["self", "words"] ["self", "words"] (defScope s_TreeReader_init) := ⟨rfl, rfl, rfl, by decide +kernel, rfl, by decide +kernel, by decide +kernel⟩
/-! TreeReader.whole_tree: slots 0 self 1 word -/
abbrev s_TreeReader_whole_tree : Stmt := inClass (topS 24) 1
theorem sc_TreeReader_whole_tree : FnScope ["self", "word"] ["self"] (defScope s_TreeReader_whole_tree) := ⟨rfl, rfl, rfl, by decide +kernel, rfl, by decide +kernel, by decide +kernel⟩
/-! TreeReader._take: slots 0 self 1 word -/
abbrev s_TreeReader__take : Stmt := inClass (topS 24) 2
theorem sc_TreeReader__take : FnScope ["self", "word"] ["self", "word"] (defScope s_TreeReader__take) := ⟨rfl, rfl, rfl, by decide +kernel, rfl, by decide +kernel, by decide +kernel⟩
/-! TreeReader._next_word: slots 0 self -/
abbrev s_TreeReader__next_word : Stmt := inClass (topS 24) 3
theorem sc_TreeReader__next_word : FnScope ["self"] ["self"] (defScope s_TreeReader__next_word) := ⟨rfl, rfl, rfl, by decide +kernel, rfl, by decide +kernel, by decide +kernel⟩
/-! TreeReader._open: slots 0 self 1 word -/
abbrev s_TreeReader__open : Stmt := inClass (topS 24) 4
theorem sc_TreeReader__open : FnScope ["self", "word"] ["self", "word"] (defScope s_TreeReader__open) := ⟨rfl, rfl, rfl, by decide +kernel, rfl, by decide +kernel, by decide +kernel⟩
/-! TreeReader._close: slots 0 self 1 opening -/
abbrev s_TreeReader__close : Stmt := inClass (topS 24) 5
theorem sc_TreeReader__close : FnScope ["self", "opening"] ["self"] (defScope s_TreeReader__close) := ⟨rfl, rfl, rfl, by decide +kernel, rfl, by decide +kernel, by decide +kernel⟩
/-! TreeReader._raise_to: slots 0 self 1 digit -/
abbrev s_TreeReader__raise_to : Stmt := inClass (topS 24) 6
theorem sc_TreeReader__raise_to : FnScope ["self", "digit"] ["self"] (defScope s_TreeReader__raise_to) := ⟨rfl, rfl, rfl, by decide +kernel, rfl, by decide +kernel, by decide +kernel⟩
/-! TreeReader._take_sign: slots 0 self 1 word 2 first -/
abbrev s_TreeReader__take_sign : Stmt := inClass (topS 24) 7
theorem sc_TreeReader__take_sign : FnScope ["self", "word", "first"] ["self", "word"] (defScope s_TreeReader__take_sign) := ⟨rfl, rfl, rfl, by decide +kernel, rfl, by decide +kernel, by decide +kernel⟩
/-! TreeReader._take_atom: slots 0 self 1 word -/
abbrev s_TreeReader__take_atom : Stmt := inClass (topS 24) 8
theorem sc_TreeReader__take_atom : FnScope ["self", "word"] ["self", "word"] (defScope s_TreeReader__take_atom) := ⟨rfl, rfl, rfl, by decide +kernel, rfl, by decide +kernel, by decide +kernel⟩
/-! TreeReader._settle: slots 0 self 1 rank 2 sign 3 last -/
abbrev s_TreeReader__settle : Stmt := inClass (topS 24) 9
theorem sc_TreeReader__settle : FnScope ["self", "rank", "sign", "last"] ["self", "rank"] (defScope s_TreeReader__settle) := ⟨rfl, rfl, rfl, by decide +kernel, rfl, by decide +kernel, by decide +kernel⟩
/-! read_tree: slots 0 text 1 words -/
abbrev s_read_tree : Stmt := topS 25
theorem sc_read_tree : FnScope ["text", "words"] ["text"] (defScope s_read_tree) := ⟨rfl, rfl, rfl, by decide +kernel, rfl, by decide +kernel, by decide +kernel⟩
/-! nodes_of: slots 0 tree 1 nodes 2 waiting 3 node 4 part -/
abbrev s_nodes_of : Stmt := topS 26
theorem sc_nodes_of : FnScope ["tree", "nodes", "waiting", "node", "part"] ["tree"] (defScope s_nodes_of) := ⟨rfl, rfl, rfl, by decide +kernel, rfl, by decide +kernel, by decide +kernel⟩
/-! postfix: slots 0 tree 1 steps 2 node 3 word -/
abbrev s_postfix : Stmt := topS 27
theorem sc_postfix : FnScope ["tree", "steps", "node", "word"] ["tree"] (defScope s_postfix) := ⟨rfl, rfl, rfl, by decide +kernel, rfl, by decide +kernel, by decide +kernel⟩
/-! built: slots 0 steps 1 table 2 trees 3 word 4 thing 5 last -/
abbrev s_built : Stmt := topS 28
theorem sc_built : FnScope ["steps", "table", "trees", "word", "thing", "last"] ["steps", "table"] (defScope s_built) := ⟨rfl, rfl, rfl, by decide +kernel, rfl, by decide +kernel, by decide +kernel⟩
/-! replaced: slots 0 tree 1 table -/
abbrev s_replaced : Stmt := topS 29
theorem sc_replaced : FnScope ["tree", "table"] ["tree", "table"] (defScope s_replaced) := ⟨rfl, rfl, rfl, by decide +kernel, rfl, by decide +kernel, by decide +kernel⟩
/-! bracketed: slots 0 part 1 least -/
abbrev s_bracketed : Stmt := topS 30
theorem sc_bracketed : FnScope ["part", "least"] ["part", "least"] (defScope s_bracketed) := ⟨rfl, rfl, rfl, by decide +kernel, rfl, by decide +kernel, by decide +kernel⟩
/-! write_tree: slots 0 tree 1 parts 2 word 3 thing 4 right 5 left 6 rank -/
abbrev s_write_tree : Stmt := topS 31
theorem sc_write_tree : FnScope ["tree", "parts", "word", "thing", "right", "left", "rank"] ["tree"] (defScope s_write_tree) := ⟨rfl, rfl, rfl, by decide +kernel, rfl, by decide +kernel, by decide +kernel⟩
/-! put_in: slots 0 formula 1 name 2 other -/
abbrev s_put_in : Stmt := topS 37
theorem sc_put_in : FnScope ["formula", "name", "other"] ["formula", "name", "other"] (defScope s_put_in) := ⟨rfl, rfl, rfl, by decide +kernel, rfl, by decide +kernel, by decide +kernel⟩
/-! degree_of: slots 0 formula 1 degrees 2 name -/
abbrev s_degree_of : Stmt := topS 38
theorem sc_degree_of : FnScope ["formula", "degrees", "name"] ["formula", "degrees"] (defScope s_degree_of) := ⟨rfl, rfl, rfl, by decide +kernel, rfl, by decide +kernel, by decide +kernel⟩
/-! tree_degree: slots 0 tree 1 degrees 2 stack 3 word 4 thing 5 last -/
abbrev s_tree_degree : Stmt := topS 39
theorem sc_tree_degree : FnScope ["tree", "degrees", "stack", "word", "thing", "last"] ["tree", "degrees"] (defScope s_tree_degree) := ⟨rfl, rfl, rfl, by decide +kernel, rfl, by decide +kernel, by decide +kernel⟩
/-! formula_of: slots 0 tree -/
abbrev s_formula_of : Stmt := topS 40
theorem sc_formula_of : FnScope ["tree"] ["tree"] (defScope s_formula_of) := ⟨rfl, rfl, rfl, by decide +kernel, rfl, by decide +kernel, by decide +kernel⟩
/-! tree_digits: slots 0 tree 1 node -/
abbrev s_tree_digits : Stmt := topS 41
theorem sc_tree_digits : FnScope ["tree", "node"] ["tree"] (defScope s_tree_digits) := ⟨rfl, rfl, rfl, by decide +kernel, rfl, by decide +kernel, by decide +kernel⟩
/-! tree_size: slots 0 tree 1 size 2 word 3 _ -/
abbrev s_tree_size : Stmt := topS 42
theorem sc_tree_size : FnScope ["tree", "size", "word", "_"] ["tree"] (defScope s_tree_size) := ⟨rfl, rfl, rfl, by decide +kernel, rfl, by decide +kernel, by decide +kernel⟩
/-! text_depth: slots 0 text 1 depth 2 most 3 sign -/
abbrev s_text_depth : Stmt := topS 43
theorem sc_text_depth : FnScope ["text", "depth", "most", "sign"] ["text"] (defScope s_text_depth) := ⟨rfl, rfl, rfl, by decide +kernel, rfl, by decide +kernel, by decide +kernel⟩
/-! met_names: slots 0 tree 1 found 2 word 3 thing -/
abbrev s_met_names : Stmt := topS 44
theorem sc_met_names : FnScope ["tree", "found", "word", "thing"] ["tree"] (defScope s_met_names) := ⟨rfl, rfl, rfl, by decide +kernel, rfl, by decide +kernel, by decide +kernel⟩
/-! call_nodes: slots 0 tree 1 node -/
abbrev s_call_nodes : Stmt := topS 45
theorem sc_call_nodes : FnScope ["tree", "node"] ["tree"] (defScope s_call_nodes) := ⟨rfl, rfl, rfl, by decide +kernel, rfl, by decide +kernel, by decide +kernel⟩
/-! Formula.__init__: slots 0 self 1 text 2 tree -/
abbrev s_Formula_init : Stmt := inClass (topS 46) 0
theorem sc_Formula_init : FnScope ["self", "text", "tree"] ["self", "text", "tree"] (defScope s_Formula_init) := ⟨rfl, rfl, rfl, by decide +kernel, rfl, by decide +kernel, by decide +kernel⟩
/-! Formula.text: slots 0 self -/
abbrev s_Formula_text : Stmt := inClass (topS 46) 1
theorem sc_Formula_text : FnScope ["self"] ["self"] (defScope s_Formula_text) := ⟨rfl, rfl, rfl, by decide +kernel, rfl, by decide +kernel, by decide +kernel⟩
/-! Formula.calls: slots 0 self 1 name 2 tree -/
abbrev s_Formula_calls : Stmt := inClass (topS 46) 2
theorem sc_Formula_calls : FnScope ["self", "name", "tree"] ["self"] (defScope s_Formula_calls) := ⟨rfl, rfl, rfl, by decide +kernel, rfl, by decide +kernel, by decide +kernel⟩
/-! Formula.__eq__: slots 0 self 1 other -/
abbrev s_Formula_eq : Stmt := inClass (topS 46) 3
theorem sc_Formula_eq : FnScope ["self", "other"] ["self", "other"] (defScope s_Formula_eq) := ⟨rfl, rfl, rfl, by decide +kernel, rfl, by decide +kernel, by decide +kernel⟩
/-! Formula.__repr__: slots 0 self -/
abbrev s_Formula_repr : Stmt := inClass (topS 46) 4
theorem sc_Formula_repr : FnScope ["self"] ["self"] (defScope s_Formula_repr) := ⟨rfl, rfl, rfl, by decide +kernel, rfl, by decide +kernel, by decide +kernel⟩
/-! _formula_tree: slots 0 text 1 tree -/
abbrev s__formula_tree : Stmt := topS 47
theorem sc__formula_tree : FnScope ["text", "tree"] ["text"] (defScope s__formula_tree) := ⟨rfl, rfl, rfl, by decide +kernel, rfl, by decide +kernel, by decide +kernel⟩
/-! _check_bounds: slots 0 formula 1 digits -/
abbrev s__check_bounds : Stmt := topS 48
theorem sc__check_bounds : FnScope ["formula", "digits"] ["formula"] (defScope s__check_bounds) := ⟨rfl, rfl, rfl, by decide +kernel, rfl, by decide +kernel, by decide +kernel⟩
/-! _law_jar: slots 0 script 1 mixed 2 cell -/
abbrev s__law_jar : Stmt := topS 50
theorem sc__law_jar : FnScope ["script", "mixed", "cell"] ["script"] (defScope s__law_jar) := ⟨rfl, rfl, rfl, by decide +kernel, rfl, by decide +kernel, by decide +kernel⟩
/-! _law_draw: slots 0 jar 1 many 2 cell 3 digit -/
abbrev s__law_draw : Stmt := topS 51
theorem sc__law_draw : FnScope ["jar", "many", "cell", "digit"] ["jar", "many"] (defScope s__law_draw) := ⟨rfl, rfl, rfl, by decide +kernel, rfl, by decide +kernel, by decide +kernel⟩
/-! _law_pick: slots 0 jar 1 menu -/
abbrev s__law_pick : Stmt := topS 52
theorem sc__law_pick : FnScope ["jar", "menu"] ["jar", "menu"] (defScope s__law_pick) := ⟨rfl, rfl, rfl, by decide +kernel, rfl, by decide +kernel, by decide +kernel⟩
/-! _law_whole: slots 0 told -/
abbrev s__law_whole : Stmt := topS 53
theorem sc__law_whole : FnScope ["told"] ["told"] (defScope s__law_whole) := ⟨rfl, rfl, rfl, by decide +kernel, rfl, by decide +kernel, by decide +kernel⟩
/-! _law_like: slots 0 told 1 due 2 k -/
abbrev s__law_like : Stmt := topS 54
theorem sc__law_like : FnScope ["told", "due", "k"] ["told", "due"] (defScope s__law_like) := ⟨rfl, rfl, rfl, by decide +kernel, rfl, by decide +kernel, by decide +kernel⟩
/-! _law_is_call: slots 0 word -/
abbrev s__law_is_call : Stmt := topS 55
theorem sc__law_is_call : FnScope ["word"] ["word"] (defScope s__law_is_call) := ⟨rfl, rfl, rfl, by decide +kernel, rfl, by decide +kernel, by decide +kernel⟩
/-! _law_held: slots 0 one 1 least -/
abbrev s__law_held : Stmt := topS 56
theorem sc__law_held : FnScope ["one", "least"] ["one", "least"] (defScope s__law_held) := ⟨rfl, rfl, rfl, by decide +kernel, rfl, by decide +kernel, by decide +kernel⟩
/-! _law_text: slots 0 formula 1 stack 2 word 3 low 4 right 5 left -/
abbrev s__law_text : Stmt := topS 57
theorem sc__law_text : FnScope ["formula", "stack", "word", "low", "right", "left"] ["formula"] (defScope s__law_text) := ⟨rfl, rfl, rfl, by decide +kernel, rfl, by decide +kernel, by decide +kernel⟩
/-! _law_tokens: slots 0 words 1 made 2 k 3 high -/
abbrev s__law_tokens : Stmt := topS 58
theorem sc__law_tokens : FnScope ["words", "made", "k", "high"] ["words"] (defScope s__law_tokens) := ⟨rfl, rfl, rfl, by decide +kernel, rfl, by decide +kernel, by decide +kernel⟩
/-! _law_is_name: slots 0 word 1 sign -/
abbrev s__law_is_name : Stmt := topS 59
theorem sc__law_is_name : FnScope ["word", "sign"] ["word"] (defScope s__law_is_name) := ⟨rfl, rfl, rfl, by decide +kernel, rfl, by decide +kernel, by decide +kernel⟩
/-! _law_figures: slots 0 word 1 sign -/
abbrev s__law_figures : Stmt := topS 60
theorem sc__law_figures : FnScope ["word", "sign"] ["word"] (defScope s__law_figures) := ⟨rfl, rfl, rfl, by decide +kernel, rfl, by decide +kernel, by decide +kernel⟩
/-! _law_parse_sum: slots 0 state 1 minus 2 sign -/
abbrev s__law_parse_sum : Stmt := topS 61
theorem sc__law_parse_sum : FnScope ["state", "minus", "sign"] ["state"] (defScope s__law_parse_sum) := ⟨rfl, rfl, rfl, by decide +kernel, rfl, by decide +kernel, by decide +kernel⟩
/-! _law_parse_product: slots 0 state 1 sign -/
abbrev s__law_parse_product : Stmt := topS 62
theorem sc__law_parse_product : FnScope ["state", "sign"] ["state"] (defScope s__law_parse_product) := ⟨rfl, rfl, rfl, by decide +kernel, rfl, by decide +kernel, by decide +kernel⟩
/-! _law_parse_power: slots 0 state 1 digit -/
abbrev s__law_parse_power : Stmt := topS 63
theorem sc__law_parse_power : FnScope ["state", "digit"] ["state"] (defScope s__law_parse_power) := ⟨rfl, rfl, rfl, by decide +kernel, rfl, by decide +kernel, by decide +kernel⟩
/-! _law_parse_atom: slots 0 state 1 word -/
abbrev s__law_parse_atom : Stmt := topS 64
theorem sc__law_parse_atom : FnScope ["state", "word"] ["state"] (defScope s__law_parse_atom) := ⟨rfl, rfl, rfl, by decide +kernel, rfl, by decide +kernel, by decide +kernel⟩
/-! _law_parse: slots 0 words 1 tokens 2 state -/
abbrev s__law_parse : Stmt := topS 65
theorem sc__law_parse : FnScope ["words", "tokens", "state"] ["words"] (defScope s__law_parse) := ⟨rfl, rfl, rfl, by decide +kernel, rfl, by decide +kernel, by decide +kernel⟩
/-! _law_names: slots 0 formula 1 word -/
abbrev s__law_names : Stmt := topS 66
theorem sc__law_names : FnScope ["formula", "word"] ["formula"] (defScope s__law_names) := ⟨rfl, rfl, rfl, by decide +kernel, rfl, by decide +kernel, by decide +kernel⟩
/-! _law_put: slots 0 formula 1 known 2 made 3 word -/
abbrev s__law_put : Stmt := topS 67
theorem sc__law_put : FnScope ["formula", "known", "made", "word"] ["formula", "known"] (defScope s__law_put) := ⟨rfl, rfl, rfl, by decide +kernel, rfl, by decide +kernel, by decide +kernel⟩
/-! _law_labels: slots 0 jar 1 pool 2 start 3 jump 4 k -/
abbrev s__law_labels : Stmt := topS 68
theorem sc__law_labels : FnScope ["jar", "pool", "start", "jump", "k"] ["jar"] (defScope s__law_labels) := ⟨rfl, rfl, rfl, by decide +kernel, rfl, by decide +kernel, by decide +kernel⟩
/-! _law_degrees: slots 0 formula 1 known 2 stack 3 high 4 word 5 b 6 a -/
abbrev s__law_degrees : Stmt := topS 69
theorem sc__law_degrees : FnScope ["formula", "known", "stack", "high", "word", "b", "a"] ["formula", "known"] (defScope s__law_degrees) := ⟨rfl, rfl, rfl, by decide +kernel, rfl, by decide +kernel, by decide +kernel⟩
/-! _law_leaf: slots 0 jar 1 labels 2 way -/
abbrev s__law_leaf : Stmt := topS 70
theorem sc__law_leaf : FnScope ["jar", "labels", "way"] ["jar", "labels"] (defScope s__law_leaf) := ⟨rfl, rfl, rfl, by decide +kernel, rfl, by decide +kernel, by decide +kernel⟩
/-! _law_any: slots 0 jar 1 labels 2 steps 3 made 4 turn 5 way 6 piece -/
abbrev s__law_any : Stmt := topS 71
theorem sc__law_any : FnScope ["jar", "labels", "steps", "made", "turn", "way", "piece"] ["jar", "labels", "steps"] (defScope s__law_any) := ⟨rfl, rfl, rfl, by decide +kernel, rfl, by decide +kernel, by decide +kernel⟩
/-! _law_blank: slots 0 jar -/
abbrev s__law_blank : Stmt := topS 72
theorem sc__law_blank : FnScope ["jar"] ["jar"] (defScope s__law_blank) := ⟨rfl, rfl, rfl, by decide +kernel, rfl, by decide +kernel, by decide +kernel⟩
/-! _law_loose: slots 0 jar 1 formula 2 stack 3 word 4 low 5 right 6 left 7 one -/
abbrev s__law_loose : Stmt := topS 73
theorem sc__law_loose : FnScope ["jar", "formula", "stack", "word", "low", "right", "left", "one"] ["jar", "formula"] (defScope s__law_loose) := ⟨rfl, rfl, rfl, by decide +kernel, rfl, by decide +kernel, by decide +kernel⟩
/-! _law_once: slots 0 names 1 made 2 name -/
abbrev s__law_once : Stmt := topS 74
theorem sc__law_once : FnScope ["names", "made", "name"] ["names"] (defScope s__law_once) := ⟨rfl, rfl, rfl, by decide +kernel, rfl, by decide +kernel, by decide +kernel⟩
/-! _law_depth: slots 0 words 1 depth 2 best 3 sign -/
abbrev s__law_depth : Stmt := topS 75
theorem sc__law_depth : FnScope ["words", "depth", "best", "sign"] ["words"] (defScope s__law_depth) := ⟨rfl, rfl, rfl, by decide +kernel, rfl, by decide +kernel, by decide +kernel⟩
/-! _law_calls_due: slots 0 formula 1 stack 2 made 3 word 4 b 5 a -/
abbrev s__law_calls_due : Stmt := topS 76
theorem sc__law_calls_due : FnScope ["formula", "stack", "made", "word", "b", "a"] ["formula"] (defScope s__law_calls_due) := ⟨rfl, rfl, rfl, by decide +kernel, rfl, by decide +kernel, by decide +kernel⟩
/-! _law_right: slots 0 one 1 formula 2 words 3 size 4 turn 5 told 6 word 7 pair -/
abbrev s__law_right : Stmt := topS 77
theorem sc__law_right : FnScope ["one", "formula", "words", "size", "turn", "told", "word", "pair"] ["one", "formula"] (defScope s__law_right) := ⟨rfl, rfl, rfl, by decide +kernel, rfl, by decide +kernel, by decide +kernel⟩
/-! _law_read: slots 0 words 1 e -/
abbrev s__law_read : Stmt := topS 78
theorem sc__law_read : FnScope ["words", "e"] ["words"] (defScope s__law_read) := ⟨rfl, rfl, rfl, by decide +kernel, rfl, by decide +kernel, by decide +kernel⟩
/-! _law_degrees_right: slots 0 jar 1 one 2 formula 3 names 4 known 5 name 6 left 7 e -/
abbrev s__law_degrees_right : Stmt := topS 79
theorem sc__law_degrees_right : FnScope ["jar", "one", "formula", "names", "known", "name", "left", "e"] ["jar", "one", "formula"] (defScope s__law_degrees_right) := ⟨rfl, rfl, rfl, by decide +kernel, rfl, by decide +kernel, by decide +kernel⟩
/-! _law_bent: slots 0 jar 1 words 2 k 3 sign 4 way -/
abbrev s__law_bent : Stmt := topS 80
theorem sc__law_bent : FnScope ["jar", "words", "k", "sign", "way"] ["jar", "words"] (defScope s__law_bent) := ⟨rfl, rfl, rfl, by decide +kernel, rfl, by decide +kernel, by decide +kernel⟩
/-! law: slots 0 script 1 jar 2 labels 3 formula 4 words 5 one 6 turn 7 bent 8 due 9 told 10 small 11 piece 12 name 13 made -/
abbrev s_law : Stmt := topS 81
theorem sc_law : FnScope ["script", "jar", "labels", "formula", "words", "one", "turn", "bent", "due", "told", "small", "piece", "name", "made"] ["script"] (defScope s_law) := ⟨rfl, rfl, rfl, by decide +kernel, rfl, by decide +kernel, by decide +kernel⟩
/-- a def of the text: where it stands -/
structure DefG (K : PySem.W.Frag) (py qual : Str) (st : Stmt) (ps : List Str) where
  a : Addr
  fd : FuncData
  F : Fun K py qual st a fd
  b : Binds K fd ps []
/-- a def with keyword-only defaults: where it stands -/
structure DefK (K : PySem.W.Frag) (py qual : Str) (st : Stmt) (ps : List Str) (kws : List (Str × V)) (ds : List Value) where
  a : Addr
  fd : FuncData
  F : FunD K py qual (defArgs st) (defBody st) (defScope st) [] kws a fd
  b : Binds K fd ps ds
def hits (K : PySem.W.Frag) (d : Addr) (l : List (Str × V)) : Prop := ∀ q ∈ l, ∃ u, PySem.W.nsIn K d q.1 = some (some u) ∧ RelV q.2 u
def misses (K : PySem.W.Frag) (d : Addr) (l : List Str) : Prop := ∀ q ∈ l, PySem.W.nsIn K d q = some none
/-- the values written by place, n of them, and the one written by its name -/
def gk {α : Type} (n : Nat) (us ws : List α) : List α := if us.length = n ∧ ws.length = 1 then us ++ ws else []
def kept : List Str := ["sheet", "input", "given", "let", "answer", "done", "program", "mix", "round", "out", "exp", "log", "sin", "cos", "tan", "atan", "at", "as", "with", "beside"]
def callS : List Str := ["exp", "log", "sin", "cos", "tan", "atan"]
set_option maxHeartbeats 0 in
/-- what stands behind the top -/
structure Txt (w : World) (K : PySem.W.Frag) (mg : Str → Option Value) where
  cT : Addr
  cF : Addr
  d_BadFormula_init : DefG K "__init__" "BadFormula.__init__" s_BadFormula_init ["self", "why"]
  d_NoSuch_init : DefG K "__init__" "NoSuch.__init__" s_NoSuch_init ["self", "name"]
  d_is_digits : DefG K "is_digits" "is_digits" s_is_digits ["text"]
  g_is_digits : mg "is_digits" = some (.ref d_is_digits.a)
  d_is_name : DefG K "is_name" "is_name" s_is_name ["value"]
  g_is_name : mg "is_name" = some (.ref d_is_name.a)
  d_split_words : DefG K "split_words" "split_words" s_split_words ["text"]
  g_split_words : mg "split_words" = some (.ref d_split_words.a)
  d_TreeReader_init : DefG K "__init__" "TreeReader.__init__" s_TreeReader_init ["self", "words"]
  d_TreeReader_whole_tree : DefG K "whole_tree" "TreeReader.whole_tree" s_TreeReader_whole_tree ["self"]
  m_TreeReader_whole_tree : Meth K cT "whole_tree" d_TreeReader_whole_tree.a
  d_TreeReader__take : DefG K "_take" "TreeReader._take" s_TreeReader__take ["self", "word"]
  m_TreeReader__take : Meth K cT "_take" d_TreeReader__take.a
  d_TreeReader__next_word : DefG K "_next_word" "TreeReader._next_word" s_TreeReader__next_word ["self"]
  m_TreeReader__next_word : Meth K cT "_next_word" d_TreeReader__next_word.a
  d_TreeReader__open : DefG K "_open" "TreeReader._open" s_TreeReader__open ["self", "word"]
  m_TreeReader__open : Meth K cT "_open" d_TreeReader__open.a
  d_TreeReader__close : DefG K "_close" "TreeReader._close" s_TreeReader__close ["self"]
  m_TreeReader__close : Meth K cT "_close" d_TreeReader__close.a
  d_TreeReader__raise_to : DefG K "_raise_to" "TreeReader._raise_to" s_TreeReader__raise_to ["self"]
  m_TreeReader__raise_to : Meth K cT "_raise_to" d_TreeReader__raise_to.a
  d_TreeReader__take_sign : DefG K "_take_sign" "TreeReader._take_sign" s_TreeReader__take_sign ["self", "word"]
  m_TreeReader__take_sign : Meth K cT "_take_sign" d_TreeReader__take_sign.a
  d_TreeReader__take_atom : DefG K "_take_atom" "TreeReader._take_atom" s_TreeReader__take_atom ["self", "word"]
  m_TreeReader__take_atom : Meth K cT "_take_atom" d_TreeReader__take_atom.a
  d_TreeReader__settle : DefG K "_settle" "TreeReader._settle" s_TreeReader__settle ["self", "rank"]
  m_TreeReader__settle : Meth K cT "_settle" d_TreeReader__settle.a
  d_read_tree : DefG K "read_tree" "read_tree" s_read_tree ["text"]
  g_read_tree : mg "read_tree" = some (.ref d_read_tree.a)
  d_nodes_of : DefG K "nodes_of" "nodes_of" s_nodes_of ["tree"]
  g_nodes_of : mg "nodes_of" = some (.ref d_nodes_of.a)
  d_postfix : DefG K "postfix" "postfix" s_postfix ["tree"]
  g_postfix : mg "postfix" = some (.ref d_postfix.a)
  d_built : DefG K "built" "built" s_built ["steps", "table"]
  g_built : mg "built" = some (.ref d_built.a)
  d_replaced : DefG K "replaced" "replaced" s_replaced ["tree", "table"]
  g_replaced : mg "replaced" = some (.ref d_replaced.a)
  d_bracketed : DefG K "bracketed" "bracketed" s_bracketed ["part", "least"]
  g_bracketed : mg "bracketed" = some (.ref d_bracketed.a)
  d_write_tree : DefG K "write_tree" "write_tree" s_write_tree ["tree"]
  g_write_tree : mg "write_tree" = some (.ref d_write_tree.a)
  d_put_in : DefG K "put_in" "put_in" s_put_in ["formula", "name", "other"]
  g_put_in : mg "put_in" = some (.ref d_put_in.a)
  d_degree_of : DefG K "degree_of" "degree_of" s_degree_of ["formula", "degrees"]
  g_degree_of : mg "degree_of" = some (.ref d_degree_of.a)
  d_tree_degree : DefG K "tree_degree" "tree_degree" s_tree_degree ["tree", "degrees"]
  g_tree_degree : mg "tree_degree" = some (.ref d_tree_degree.a)
  d_formula_of : DefG K "formula_of" "formula_of" s_formula_of ["tree"]
  g_formula_of : mg "formula_of" = some (.ref d_formula_of.a)
  d_tree_digits : DefG K "tree_digits" "tree_digits" s_tree_digits ["tree"]
  g_tree_digits : mg "tree_digits" = some (.ref d_tree_digits.a)
  d_tree_size : DefG K "tree_size" "tree_size" s_tree_size ["tree"]
  g_tree_size : mg "tree_size" = some (.ref d_tree_size.a)
  d_text_depth : DefG K "text_depth" "text_depth" s_text_depth ["text"]
  g_text_depth : mg "text_depth" = some (.ref d_text_depth.a)
  d_met_names : DefG K "met_names" "met_names" s_met_names ["tree"]
  g_met_names : mg "met_names" = some (.ref d_met_names.a)
  d_call_nodes : DefG K "call_nodes" "call_nodes" s_call_nodes ["tree"]
  g_call_nodes : mg "call_nodes" = some (.ref d_call_nodes.a)
  d_Formula_init : DefK K "__init__" "Formula.__init__" s_Formula_init ["self", "text", "tree"] [("tree", .non)] [.none]
  d_Formula_text : DefG K "text" "Formula.text" s_Formula_text ["self"]
  d_Formula_calls : DefG K "calls" "Formula.calls" s_Formula_calls ["self"]
  m_Formula_calls : Meth K cF "calls" d_Formula_calls.a
  d_Formula_eq : DefG K "__eq__" "Formula.__eq__" s_Formula_eq ["self", "other"]
  d_Formula_repr : DefG K "__repr__" "Formula.__repr__" s_Formula_repr ["self"]
  d__formula_tree : DefG K "_formula_tree" "_formula_tree" s__formula_tree ["text"]
  g__formula_tree : mg "_formula_tree" = some (.ref d__formula_tree.a)
  d__check_bounds : DefG K "_check_bounds" "_check_bounds" s__check_bounds ["formula"]
  g__check_bounds : mg "_check_bounds" = some (.ref d__check_bounds.a)
  d__law_jar : DefG K "_law_jar" "_law_jar" s__law_jar ["script"]
  g__law_jar : mg "_law_jar" = some (.ref d__law_jar.a)
  d__law_draw : DefG K "_law_draw" "_law_draw" s__law_draw ["jar", "many"]
  g__law_draw : mg "_law_draw" = some (.ref d__law_draw.a)
  d__law_pick : DefG K "_law_pick" "_law_pick" s__law_pick ["jar", "menu"]
  g__law_pick : mg "_law_pick" = some (.ref d__law_pick.a)
  d__law_whole : DefG K "_law_whole" "_law_whole" s__law_whole ["told"]
  g__law_whole : mg "_law_whole" = some (.ref d__law_whole.a)
  d__law_like : DefG K "_law_like" "_law_like" s__law_like ["told", "due"]
  g__law_like : mg "_law_like" = some (.ref d__law_like.a)
  d__law_is_call : DefG K "_law_is_call" "_law_is_call" s__law_is_call ["word"]
  g__law_is_call : mg "_law_is_call" = some (.ref d__law_is_call.a)
  d__law_held : DefG K "_law_held" "_law_held" s__law_held ["one", "least"]
  g__law_held : mg "_law_held" = some (.ref d__law_held.a)
  d__law_text : DefG K "_law_text" "_law_text" s__law_text ["formula"]
  g__law_text : mg "_law_text" = some (.ref d__law_text.a)
  d__law_tokens : DefG K "_law_tokens" "_law_tokens" s__law_tokens ["words"]
  g__law_tokens : mg "_law_tokens" = some (.ref d__law_tokens.a)
  d__law_is_name : DefG K "_law_is_name" "_law_is_name" s__law_is_name ["word"]
  g__law_is_name : mg "_law_is_name" = some (.ref d__law_is_name.a)
  d__law_figures : DefG K "_law_figures" "_law_figures" s__law_figures ["word"]
  g__law_figures : mg "_law_figures" = some (.ref d__law_figures.a)
  d__law_parse_sum : DefG K "_law_parse_sum" "_law_parse_sum" s__law_parse_sum ["state"]
  g__law_parse_sum : mg "_law_parse_sum" = some (.ref d__law_parse_sum.a)
  d__law_parse_product : DefG K "_law_parse_product" "_law_parse_product" s__law_parse_product ["state"]
  g__law_parse_product : mg "_law_parse_product" = some (.ref d__law_parse_product.a)
  d__law_parse_power : DefG K "_law_parse_power" "_law_parse_power" s__law_parse_power ["state"]
  g__law_parse_power : mg "_law_parse_power" = some (.ref d__law_parse_power.a)
  d__law_parse_atom : DefG K "_law_parse_atom" "_law_parse_atom" s__law_parse_atom ["state"]
  g__law_parse_atom : mg "_law_parse_atom" = some (.ref d__law_parse_atom.a)
  d__law_parse : DefG K "_law_parse" "_law_parse" s__law_parse ["words"]
  g__law_parse : mg "_law_parse" = some (.ref d__law_parse.a)
  d__law_names : DefG K "_law_names" "_law_names" s__law_names ["formula"]
  g__law_names : mg "_law_names" = some (.ref d__law_names.a)
  d__law_put : DefG K "_law_put" "_law_put" s__law_put ["formula", "known"]
  g__law_put : mg "_law_put" = some (.ref d__law_put.a)
  d__law_labels : DefG K "_law_labels" "_law_labels" s__law_labels ["jar"]
  g__law_labels : mg "_law_labels" = some (.ref d__law_labels.a)
  d__law_degrees : DefG K "_law_degrees" "_law_degrees" s__law_degrees ["formula", "known"]
  g__law_degrees : mg "_law_degrees" = some (.ref d__law_degrees.a)
  d__law_leaf : DefG K "_law_leaf" "_law_leaf" s__law_leaf ["jar", "labels"]
  g__law_leaf : mg "_law_leaf" = some (.ref d__law_leaf.a)
  d__law_any : DefG K "_law_any" "_law_any" s__law_any ["jar", "labels", "steps"]
  g__law_any : mg "_law_any" = some (.ref d__law_any.a)
  d__law_blank : DefG K "_law_blank" "_law_blank" s__law_blank ["jar"]
  g__law_blank : mg "_law_blank" = some (.ref d__law_blank.a)
  d__law_loose : DefG K "_law_loose" "_law_loose" s__law_loose ["jar", "formula"]
  g__law_loose : mg "_law_loose" = some (.ref d__law_loose.a)
  d__law_once : DefG K "_law_once" "_law_once" s__law_once ["names"]
  g__law_once : mg "_law_once" = some (.ref d__law_once.a)
  d__law_depth : DefG K "_law_depth" "_law_depth" s__law_depth ["words"]
  g__law_depth : mg "_law_depth" = some (.ref d__law_depth.a)
  d__law_calls_due : DefG K "_law_calls_due" "_law_calls_due" s__law_calls_due ["formula"]
  g__law_calls_due : mg "_law_calls_due" = some (.ref d__law_calls_due.a)
  d__law_right : DefG K "_law_right" "_law_right" s__law_right ["one", "formula"]
  g__law_right : mg "_law_right" = some (.ref d__law_right.a)
  d__law_read : DefG K "_law_read" "_law_read" s__law_read ["words"]
  g__law_read : mg "_law_read" = some (.ref d__law_read.a)
  d__law_degrees_right : DefG K "_law_degrees_right" "_law_degrees_right" s__law_degrees_right ["jar", "one", "formula"]
  g__law_degrees_right : mg "_law_degrees_right" = some (.ref d__law_degrees_right.a)
  d__law_bent : DefG K "_law_bent" "_law_bent" s__law_bent ["jar", "words"]
  g__law_bent : mg "_law_bent" = some (.ref d__law_bent.a)
  d_law : DefG K "law" "law" s_law ["script"]
  g_law : mg "law" = some (.ref d_law.a)
  g_TreeReader : mg "TreeReader" = some (.ref cT)
  clT : Cls K cT
  mk_TreeReader : Mk K cT d_TreeReader_init.a
  nW : NoAttr K cT "_words"
  nA : NoAttr K cT "_at"
  nT : NoAttr K cT "_trees"
  nS : NoAttr K cT "_signs"
  nO : NoAttr K cT "_has_operand"
  nP : NoAttr K cT "_has_power"
  g_Formula : mg "Formula" = some (.ref cF)
  clF : Cls K cF
  mk_Formula : Mk K cF d_Formula_init.a
  kb_Formula : KBn K d_Formula_init.fd ["self", "text", "tree"] 2 ["tree"] (fun us ws => us ++ ws) (fun vs zs => vs ++ zs)
  nTr : NoAttr K cF "tree"
  nTx : NoAttr K cF "_text"
  nNm : NoAttr K cF "names"
  nDp : NoAttr K cF "depth"
  nSz : NoAttr K cF "size"
  aP : Addr
  propT : PropOf K cF "text" aP d_Formula_text.a
  eqF : PySem.W.findIn K (.ref cF) "__eq__" = some (some (.ref d_Formula_eq.a))
  eqFn : PySem.W.isFn K (.ref d_Formula_eq.a) = true
  repF : PySem.W.findIn K (.ref cF) "__repr__" = some (some (.ref d_Formula_repr.a))
  reprFn : PySem.W.isFn K (.ref d_Formula_repr.a) = true
  haF : PySem.W.findIn K (.ref cF) "__class__" = some (some (.builtin "object.__class__"))
  hnF : PySem.W.specialIn K (.builtin "object.__class__") "__get__" = some (some (.builtin "getset_descriptor.__get__"))
  htF : PySem.W.takesIn K (.builtin "object.__class__") = some true
  hmF : PySem.W.mroIn K cF (.type "object") = some true
  kFF : PySem.W.kitOne K (.ref cF) (.ref cF) = some true
  kb_put_in : KBinds K d_put_in.fd ["formula", "name", "other"] ["other"] (gk 2) (gk 2)
  kb_degree_of : KBinds K d_degree_of.fd ["formula", "degrees"] ["degrees"] (gk 1) (gk 1)
  cB : Addr
  g_BadFormula : mg "BadFormula" = some (.ref cB)
  oxB : OexC K cB
  xfB : XfC K cB
  iB : PySem.W.findIn K (.ref cB) "__init__" = some (some (.ref d_BadFormula_init.a))
  tB : PySem.W.typeIn K (.ref d_BadFormula_init.a) = some (.type "function")
  bCode : PySem.W.findIn K (.ref cB) "code" = some none
  bWhy : PySem.W.findIn K (.ref cB) "why" = some none
  vV : PySem.W.findCls K (.type "ValueError") (.type "type") "__init__" = some (.val (.builtin "ValueError.__init__"))
  teB : PySem.W.exmOne K (.ref cB) (.ref cB) = some true
  cS : Addr
  g_NoSuch : mg "NoSuch" = some (.ref cS)
  oxS : OleC K cS
  xfS : XfC K cS
  iS : PySem.W.findIn K (.ref cS) "__init__" = some (some (.ref d_NoSuch_init.a))
  tS : PySem.W.typeIn K (.ref d_NoSuch_init.a) = some (.type "function")
  sCode : PySem.W.findIn K (.ref cS) "code" = some none
  sName : PySem.W.findIn K (.ref cS) "name" = some none
  vL : PySem.W.findCls K (.type "LookupError") (.type "type") "__init__" = some (.val (.builtin "LookupError.__init__"))
  teS : PySem.W.exmOne K (.ref cS) (.ref cS) = some true
  aK : Addr
  g_KEPT_WORDS : mg "KEPT_WORDS" = some (.ref aK)
  kK : ∀ H, SqT K H aK (kept.map V.str)
  aC : Addr
  g_CALL_NAMES : mg "CALL_NAMES" = some (.ref aC)
  kC : ∀ H, SqT K H aC (callS.map V.str)
  g_LETTERS : ∃ u, mg "LETTERS" = some u ∧ RelV (.str "abcdefghijklmnopqrstuvwxyz") u
  g_NAME_SIGNS : ∃ u, mg "NAME_SIGNS" = some u ∧ RelV (.str "abcdefghijklmnopqrstuvwxyz0123456789") u
  g_SIGNS : ∃ u, mg "SIGNS" = some u ∧ RelV (.str "+-*/^()") u
  g_NEGATIVE : ∃ u, mg "NEGATIVE" = some u ∧ RelV (.str "~") u
  g_NAME_LENGTH : ∃ u, mg "NAME_LENGTH" = some u ∧ RelV (.int 8) u
  g_ATOM : ∃ u, mg "ATOM" = some u ∧ RelV (.int 3) u
  g_POWER : ∃ u, mg "POWER" = some u ∧ RelV (.int 2) u
  g_PRODUCT : ∃ u, mg "PRODUCT" = some u ∧ RelV (.int 1) u
  g_SUM : ∃ u, mg "SUM" = some u ∧ RelV (.int 0) u
  g_TEXT : ∃ u, mg "TEXT" = some u ∧ RelV (.int 20000) u
  g_DIGITS : ∃ u, mg "DIGITS" = some u ∧ RelV (.int 40) u
  g_DEPTH : ∃ u, mg "DEPTH" = some u ∧ RelV (.int 20) u
  g_SIZE : ∃ u, mg "SIZE" = some u ∧ RelV (.int 120) u
  aR : Addr
  g_RANKS : mg "RANKS" = some (.ref aR)
  eR : Array DictEntry
  mR : Nat
  k_RANKS : KDict K w aR eR mR
  hR : hits K aR [("+", .int 1), ("-", .int 1), ("~", .int 1), ("*", .int 2), ("/", .int 2)]
  iR : misses K aR ("(" :: callS)
  aN : Addr
  g_NODES : mg "NODES" = some (.ref aN)
  eN : Array DictEntry
  mN : Nat
  k_NODES : KDict K w aN eN mN
  hN : hits K aN [("+", .str "add"), ("-", .str "sub"), ("*", .str "mul"), ("/", .str "div")]
  aM : Addr
  g_MARKS : mg "MARKS" = some (.ref aM)
  eM : Array DictEntry
  mM : Nat
  k_MARKS : KDict K w aM eM mM
  hM : hits K aM [("add", .str " + "), ("sub", .str " - "), ("mul", .str "*"), ("div", .str "/")]
  n_isinstance : mg "isinstance" = none
  n_int : mg "int" = none
  n_bool : mg "bool" = none
  n_str : mg "str" = none
  n_list : mg "list" = none
  n_tuple : mg "tuple" = none
  n_dict : mg "dict" = none
  n_len : mg "len" = none
  n_range : mg "range" = none
  n_all : mg "all" = none
  n_max : mg "max" = none
  n_repr : mg "repr" = none
  n_ValueError : mg "ValueError" = none
  n_LookupError : mg "LookupError" = none
end F1

set_option Elab.async false
set_option linter.all false
set_option autoImplicit false
set_option maxRecDepth 100000
set_option maxHeartbeats 2000000
/-! # Words as values; digits and names -/
namespace F1
open PySem L2 Y
open Pl hiding Sp Ss PA PB RA RW RP RS
def S (x : W) : Str := ⟨x.toArray⟩
theorem S_inj {a b : W} : S a = S b ↔ a = b := by unfold S; simp
theorem S_len (x : W) : (S x).length = x.length := by show x.toArray.size = _; simp
theorem S_cps (x : W) : (S x).cps.toList = x := by show x.toArray.toList = x; simp
theorem S_app (x y : W) : S x ++ S y = S (x ++ y) := by show Str.mk (x.toArray ++ y.toArray) = _; simp [S]
def rW : Rp W := fun _ v x => v = .str (S x)
instance : Mono rW := ⟨fun _ h => h⟩
instance : Plain rW := ⟨id⟩
instance : Flat rW := ⟨fun _ h => h⟩
section
variable {P : Program} {w : World} {K : PySem.W.Frag} {mg : Str → Option Value} {base : Heap}
section
variable {α β γ δ : Type} {r : Rp α} {s : Rp β} {r2 : Rp γ} {r3 : Rp δ} {σ : L2.St} {Hk H : Hp} {ta tb tc : TE} {Ew : XK} {x : α} {y : γ} {z : δ}
/-- one, two, three things in, one out -/
def sp1 (r : Rp α) (s : Rp β) (pre : α → Prop) (f : α → β) : Sp := fun vs H Q _ => ∃ Hk, Ex Hk H ∧ ∃ v x, vs = [v] ∧ r Hk v x ∧ pre x ∧ Res s Hk H (f x) Q
def sp2 (r : Rp α) (r2 : Rp γ) (s : Rp β) (pre : α → γ → Prop) (f : α → γ → β) : Sp := fun vs H Q _ => ∃ Hk, Ex Hk H ∧ ∃ v x v2 y, vs = [v, v2] ∧ r Hk v x ∧ r2 Hk v2 y ∧ pre x y ∧ Res s Hk H (f x y) Q
theorem e_c1 [Mono r] {pre : α → Prop} {f : α → β} (ha : E r ta σ Hk x) (hp : pre x) : E s (tCall (sp1 r s pre f) [] Ew (tCons ta tNil)) σ Hk (f x) :=
  e_call (ea_cons ha ea_nil) fun F H vs Q ex hp2 k => by
    obtain ⟨v, ws, rfl, hv, hn⟩ := hp2
    cases hn
    exact ⟨F, ex, v, x, rfl, hv, hp, k⟩
theorem e_c2 [Mono r] [Mono r2] {pre : α → γ → Prop} {f : α → γ → β} (ha : E r ta σ Hk x) (hb : E r2 tb σ Hk y) (hp : pre x y) : E s (tCall (sp2 r r2 s pre f) [] Ew (tCons ta (tCons tb tNil))) σ Hk (f x y) :=
  e_call (ea_cons ha (ea_cons hb ea_nil)) fun F H vs Q ex hp2 k => by
    obtain ⟨v, ws, rfl, hv, v2, ws2, rfl, hv2, hn⟩ := hp2
    cases hn
    exact ⟨F, ex, v, x, v2, y, rfl, hv, hv2, hp, k⟩
end
section
variable {σ : L2.St} {Hk H : Hp} {ta tb tc : TE} {a b : W}
theorem e_w {z : Str} (h : S a = z) : E rW (tC (.str z)) σ Hk a := e_c (by show V.str z = V.str (S a); rw [h])
theorem e_eqW (ha : E rW ta σ Hk a) (hb : E rW tb σ Hk b) : E rBl (tOp rEq ta tb) σ Hk (decide (a = b)) :=
  fun H a' Q q => two ha hb H a' _ fun v w H2 F g hv hw => by
    cases hv; cases hw
    exact ⟨rfl, q _ H2 F g (by show V.bl _ = V.bl _; simp [S_inj])⟩
theorem e_neW (ha : E rW ta σ Hk a) (hb : E rW tb σ Hk b) : E rBl (tOp rNe ta tb) σ Hk (!decide (a = b)) :=
  fun H a' Q q => two ha hb H a' _ fun v w H2 F g hv hw => by
    cases hv; cases hw
    exact ⟨rfl, q _ H2 F g (by show V.bl _ = V.bl _; simp [S_inj])⟩
theorem e_lenW (ha : E rW ta σ Hk a) (hz : a.length ≤ 100000) : E rInt (tCB (fun xs H Q => ∃ z, xs = [V.str z] ∧ z.length ≤ sizeLine ∧ Q (.int z.length) H) (tCons ta tNil)) σ Hk (a.length : Int) :=
  fun H e Q q => ha H e _ fun v H2 F g hv => by
    cases hv
    exact ⟨_, rfl, sz_of (by rw [S_len]; exact hz), q _ H2 F g (by show V.int _ = V.int _; rw [S_len])⟩
theorem e_catW (ha : E rW ta σ Hk a) (hb : E rW tb σ Hk b) (hz : a.length + b.length ≤ 100000) : E rW (tOp (fun x y H Q => ∃ i j, x = V.str i ∧ y = V.str j ∧ i.length + j.length ≤ sizeLine ∧ Q (.str (i ++ j)) H) ta tb) σ Hk (a ++ b) :=
  fun H e Q q => two ha hb H e _ fun v w H2 F g hv hw => by
    cases hv; cases hw
    exact ⟨_, _, rfl, rfl, sz_of (by rw [S_len, S_len]; exact hz), q _ H2 F g (by show V.str _ = V.str _; rw [S_app])⟩
/-- s[i] -/
theorem e_atW {k : Int} {c : Nat} (ha : E rW ta σ Hk a) (hb : E rInt tb σ Hk k) (h0 : 0 ≤ k) (hc : a[k.toNat]? = some c) (hz : a.length ≤ 100000) : E rW (tOp rIxS ta tb) σ Hk [c] :=
  fun H e Q q => two ha hb H e _ fun v w H2 F g hv hw => by
    cases hv; cases hw
    refine ⟨_, k, c, rfl, rfl, sz_of (by rw [S_len]; exact hz), ?_, q _ H2 F g rfl⟩
    rw [S_cps]
    have := atI_nat hc
    rwa [Int.toNat_of_nonneg h0] at this
/-- one sign in a text -/
theorem e_inS {c : Nat} (ha : E rW ta σ Hk [c]) (hb : E rW tb σ Hk b) : E rBl (tOp (fun x y H Q => ∃ (c : Nat) (z : Str), x = .str ⟨#[c]⟩ ∧ y = .str z ∧ Q (.bl (decide (c ∈ z.cps.toList))) H) ta tb) σ Hk (decide (c ∈ b)) :=
  fun H e Q q => two ha hb H e _ fun v w H2 F g hv hw => by
    cases hv; cases hw
    exact ⟨c, _, rfl, rfl, q _ H2 F g (by show V.bl _ = V.bl _; rw [S_cps])⟩
theorem e_niS {c : Nat} (ha : E rW ta σ Hk [c]) (hb : E rW tb σ Hk b) : E rBl (tOp (fun x y H Q => ∃ (c : Nat) (z : Str), x = .str ⟨#[c]⟩ ∧ y = .str z ∧ Q (.bl (!decide (c ∈ z.cps.toList))) H) ta tb) σ Hk (!decide (c ∈ b)) :=
  fun H e Q q => two ha hb H e _ fun v w H2 F g hv hw => by
    cases hv; cases hw
    exact ⟨c, _, rfl, rfl, q _ H2 F g (by show V.bl _ = V.bl _; rw [S_cps])⟩
theorem inV_W (a : W) : ∀ l : List W, inV (.str (S a)) (l.map fun x => V.str (S x)) = decide (a ∈ l)
  | [] => by rfl
  | b :: l => by
    have ih := inV_W a l
    have e : inV (.str (S a)) ((b :: l).map fun x => V.str (S x)) = (decide (S b = S a) || inV (.str (S a)) (l.map fun x => V.str (S x))) := rfl
    rw [e, ih, Bool.eq_iff_iff, Bool.or_eq_true, decide_eq_true_eq, decide_eq_true_eq, decide_eq_true_eq, S_inj, List.mem_cons]
    constructor
    · rintro (z | z)
      · exact .inl z.symm
      · exact .inr z
    · rintro (z | z)
      · exact .inl z.symm
      · exact .inr z
theorem flat_W (l : List W) : (l.map fun x => V.str (S x)).all flatV = true := by
  rw [List.all_map]; exact List.all_eq_true.mpr fun _ _ => rfl
instance mwl (l : List W) : MonoP (fun _ vs => vs = l.map fun x => V.str (S x)) := ⟨fun _ h => h⟩
/-- word in (.., ..) -/
theorem e_inT {l : List W} {tr : TA} (ha : E rW ta σ Hk a) (hb : EA (fun _ vs => vs = l.map fun x => V.str (S x)) tr σ Hk) (hz : l.length ≤ 1000) : E rBl (tOp (rIn K false) ta (tTup tr)) σ Hk (decide (a ∈ l)) :=
  fun H e Q q => ha H e _ fun v H2 F g hv => (hb.mono (P := fun _ vs => vs = l.map fun x => V.str (S x)) g.k : EA _ tr σ F) H2 g.f _ fun vs H3 F3 g3 hvs => by
    cases hv; subst hvs
    refine ⟨sz_of (by rw [List.length_map]; omega), fun p hp => ⟨p, _, rfl, .inr (st_of upd_same), rfl, flat_W l, q _ _ F3 ⟨(g.trans g3).h.trans (Ex.new hp), (g.trans g3).k, (g.trans g3).f.trans (Ex.new hp), (g.trans g3).n⟩ ?_⟩⟩
    show V.bl (inV _ _) = _
    rw [inV_W]
theorem ea_w0 : EA (fun _ vs => vs = ([] : List W).map fun x => V.str (S x)) tNil σ Hk := fun H a _ q => q [] H Hk (Grow.refl a) rfl
theorem ea_w {l : List W} {tr : TA} (ha : E rW ta σ Hk a) (hr : EA (fun _ vs => vs = l.map fun x => V.str (S x)) tr σ Hk) : EA (fun _ vs => vs = (a :: l).map fun x => V.str (S x)) (tCons ta tr) σ Hk := fun H e Q q =>
  ha H e _ fun v H2 F g hv => (hr.mono (P := fun _ vs => vs = l.map fun x => V.str (S x)) g.k : EA _ tr σ F) H2 g.f _ fun vs H3 F3 g3 hvs => by
    cases hv; subst hvs
    exact q _ H3 F3 (g.trans g3) rfl
/-- a written tuple of words -/
theorem e_inK {l : List W} {d : Addr} {neg : Bool} (ha : E rW ta σ Hk a) (hd : ∀ H, SqT K H d (l.map fun x => V.str (S x))) : E rBl (tOp (rIn K neg) ta (tC (.ref d))) σ Hk (if neg then !decide (a ∈ l) else decide (a ∈ l)) :=
  fun H e Q q => ha H e _ fun v H2 F g hv => by
    cases hv
    refine ⟨d, _, rfl, .inr (hd H2), rfl, flat_W l, q _ H2 F g ?_⟩
    show V.bl _ = V.bl _
    rw [inV_W]
end
theorem S_map (l : List W) (z : List Str) (h : l.map S = z) : z.map V.str = l.map fun x => V.str (S x) := by subst h; simp
theorem calls_S : calls.map S = callS := by decide +kernel
theorem kept_S : keptW.map S = kept := by decide +kernel
theorem isDig : ∀ c, c < 128 → Unicode.isDigit c = dig c := by decide +kernel
theorem digit_S (x : W) : (Txt.isascii (S x) && Txt.isdigit (S x)) = (decide (x ≠ []) && x.all dig) := by
  have e1 : Txt.isascii (S x) = x.all fun c => decide (c < 128) := by unfold Txt.isascii S; simp
  have e2 : Txt.isdigit (S x) = (decide (x ≠ []) && x.all Unicode.isDigit) := by
    unfold Txt.isdigit
    rw [S_len]
    congr 1
    · cases x <;> simp
    · show x.toArray.all _ = _; simp
  rw [e1, e2, Bool.eq_iff_iff]
  simp only [Bool.and_eq_true, List.all_eq_true, decide_eq_true_eq]
  constructor
  · rintro ⟨h1, h2, h3⟩
    exact ⟨h2, fun c hc => by rw [← isDig c (h1 c hc)]; exact h3 c hc⟩
  · rintro ⟨h2, h3⟩
    have h1 : ∀ c ∈ x, c < 128 := fun c hc => by
      have := h3 c hc
      unfold dig at this
      simp only [Bool.and_eq_true, decide_eq_true_eq] at this
      omega
    exact ⟨h1, h2, fun c hc => by rw [isDig c (h1 c hc)]; exact h3 c hc⟩
theorem figs_eq (x : W) : figs x = ((decide (x ≠ []) && x.all dig) && (decide (x = [48]) || !decide (x.head? = some 48))) := by
  match x with
  | [] => rfl
  | c :: r =>
    by_cases h : c :: r = [48]
    · rw [h]; rfl
    · have : figs (c :: r) = (c != 48 && (c :: r).all dig) := by
        unfold figs
        split
        · next e => cases e
        · next e => exact absurd e h
        · next e => cases e; rfl
      rw [this, Bool.eq_iff_iff]
      simp [h]
      exact and_comm
theorem ok_is_digits (T : Txt w K mg) : FnOk P w K mg base CX0 1 T.d_is_digits.a T.d_is_digits.fd ["text"] (sp1 rW rBl (fun x => x.length ≤ 100000) figs) := by
  refine T.d_is_digits.F.ok sc_is_digits (fun vs H Q Ew h => ?_) (fun cdv A outer s H vs Q Ew hr h => ?_)
  · obtain ⟨_, _, v, x, rfl, _⟩ := h; rfl
  · obtain ⟨Hk, ex, v, x, rfl, hv, hx, q⟩ := h
    cases hv
    refine ⟨_, (pss_cons (ps_if (PW.pt (pw_or (pt_not (pt_val (pe_m0 PySem.F.slot_str_isascii PySem.F.type_str_isascii mt_isascii (pv 0) rfl rfl))) (pw_or1 (pt_not (pt_val (pe_m0 PySem.F.slot_str_isdigit PySem.F.type_str_isdigit mt_isdigit (pv 0) rfl rfl)))))) (pss_one (ps_ret pe_bl)) pss_nil)
      (pss_one (ps_ret (pe_or (pe_cmpR op_eq (pv 0) pe_str (nomark _)) (pe_one (pe_cmpR op_ne (pe_ix ix_str (pv 0) pe_int (fun _ _ => rfl)) pe_str (nomark _))))))), ?_⟩
    refine s_if (K := Hk) (b := !(Txt.isascii (S x)) || !(Txt.isdigit (S x))) ?_ ex (fun c H1 e1 => ?_) (fun c H1 e1 => ?_)
    · refine t_or (t_not ?_) fun _ => t_not ?_
      · exact t_b fun H e Q q => ⟨_, rfl, ⟨_, rfl⟩, _, rfl, rfl, trivial, q _ H Hk (Grow.refl e) rfl⟩
      · exact t_b fun H e Q q => ⟨_, rfl, ⟨_, rfl⟩, _, rfl, rfl, trivial, q _ H Hk (Grow.refl e) rfl⟩
    · have c' : (Txt.isascii (S x) && Txt.isdigit (S x)) = false := by revert c; cases Txt.isascii (S x) <;> cases Txt.isdigit (S x) <;> simp
      refine s_ret (e_bl.as ?_) (ex.trans e1) (Res.at ex e1 q)
      rw [figs_eq, ← digit_S, c']; rfl
    · have c' : (Txt.isascii (S x) && Txt.isdigit (S x)) = true := by revert c; cases Txt.isascii (S x) <;> cases Txt.isdigit (S x) <;> simp
      have d := digit_S x
      rw [c'] at d
      have vx : E rW (tVar 0) (L2.start ["text"] [.str (S x)]) Hk x := e_var rfl rfl
      match x, hx, d, vx, q with
      | c0 :: r, hx, d, vx, q =>
        refine s_ret ((e_orV (e_eqW vx (e_w (a := [48]) rfl)) fun _ => e_neW (e_atW (k := 0) (c := c0) vx e_int (Int.le_refl _) rfl hx) (e_w (a := [48]) rfl)).as ?_) (ex.trans e1) (Res.at ex e1 q)
        rw [figs_eq, ← d]
        simp
end
end F1

set_option Elab.async false
set_option linter.all false
set_option autoImplicit false
set_option maxRecDepth 100000
set_option maxHeartbeats 2000000
/-! # Names; the words of a text -/
namespace F1
open PySem L2 Y
open Pl hiding Sp Ss PA PB RA RW RP RS
section
variable {P : Program} {w : World} {K : PySem.W.Frag} {mg : Str → Option Value} {base : Heap}
theorem ix_kdictK {X : Cx} (h : X.K = K) (h' : X.w = w) : IxR X (rIxD K w) := h ▸ h' ▸ ix_kdict
theorem sl_tupK {X : Cx} (h : X.K = K) : SlR X (rSlT K) := h ▸ sl_tup
theorem cr_allK {X : Cx} (h : X.K = K) (hc : X.calm = true) : CallR X (.builtin "all") (rAll K) := h ▸ cr_all hc
section
variable {α β : Type} {r : Rp α} {s : Rp β} {σ : L2.St} {Hk H : Hp} {ta tb tc te : TE} {tt : TT} {a b x : W}
theorem e_opt0 {r : Rp α} : True := trivial
/-- None or a thing -/
def rOpt (r : Rp α) : Rp (Option α) := fun H v o => match o with | none => v = .non | some x => r H v x
instance [Mono r] : Mono (rOpt r) := ⟨fun {H H' v o} e h => by cases o with | none => exact h | some x => exact up (r := r) e h⟩
theorem e_none : E (rOpt r) (tC .non) σ Hk none := e_c rfl
theorem E.some {x : α} (h : E r ta σ Hk x) : E (rOpt r) ta σ Hk (some x) := fun H e Q q => h H e Q fun v H2 F g hv => q v H2 F g hv
theorem e_chain {i j k : Int} (ha : E rInt ta σ Hk i) (hb : E rInt tb σ Hk j) (hc : E rInt tc σ Hk k) : E rBl (tChain (rI0 fun i j => .bl (decide (i ≤ j))) (rI0 fun i j => .bl (decide (i ≤ j))) ta tb tc) σ Hk (decide (i ≤ j) && decide (j ≤ k)) :=
  fun H e Q q => ha H e _ fun v H1 F1 g1 hv => (hb.mono g1.k) H1 g1.f _ fun u H2 F2 g2 hu => by
    cases hv; cases hu
    refine ⟨i, j, rfl, rfl, decide (i ≤ j), rfl, ?_⟩
    by_cases h : i ≤ j
    · rw [if_pos (decide_eq_true h)]
      refine (hc.mono (g1.k.trans g2.k)) H2 g2.f _ fun z H3 F3 g3 hz => ?_
      cases hz
      exact ⟨j, k, rfl, rfl, q _ H3 F3 ((g1.trans g2).trans g3) (by show V.bl _ = V.bl _; rw [decide_eq_true h]; rfl)⟩
    · rw [if_neg (by simp [h])]
      exact q _ H2 F2 (g1.trans g2) (by show V.bl _ = V.bl _; rw [decide_eq_false h]; rfl)
/-- sign by sign -/
theorem it_str (h : E rW ta σ Hk x) : IT (rSgn x) (iStr ta) σ Hk x.length := fun H a Rk q => h H a _ fun v H2 F g hv => by
  cases hv
  refine ⟨S x, rfl, ?_⟩
  have w := walk_str (z := S x)
  rw [show (S x).cps.size = x.length from S_len x] at w
  refine q _ H2 F _ _ g w (fun _ _ => True.intro) fun i H3 y H4 F3 hi e1 e2 hy => ?_
  obtain ⟨rfl, c, hc, rfl⟩ := hy
  exact ⟨F3, Grow.refl e2, c, by rw [← hc]; show x[i]? = x.toArray[i]?; simp, rfl⟩
theorem rng_filter {x : W} (p : Nat → Bool) : ((List.range x.length).filter fun i => p (x.getD i 0)).map (fun i => [x.getD i 0]) = (x.filter p).map fun c => [c] := by
  have e : x = (List.range x.length).map fun i => x.getD i 0 := by
    apply List.ext_getElem (by simp)
    intro i h1 h2
    simp [h1]
  conv => rhs; rw [e]
  rw [List.filter_map, List.map_map]
  rfl
/-- [sign for sign in x if ..] -/
theorem en_lcS {j : Nat} {vs : List Nat} (p : Nat → Bool) (h : E rW ta σ Hk x) (hx : x.length ≤ 100000) (hw : ∀ v, wipe ((wipe σ vs).set j (some v)) vs = wipe σ vs)
    (hs : ∀ c F, Ex Hk F → T tt ((wipe σ vs).set j (some (.str (S [c])))) F (p c) ∧ E rW te ((wipe σ vs).set j (some (.str (S [c])))) F [c]) :
    EN rW (tLc (iStr ta) (gName j) tt te vs) σ Hk ((x.filter p).map fun c => [c]) :=
  (en_lc (p := fun i => p (x.getD i 0)) (f := fun i => [x.getD i 0]) (it_str h) hx fun i v F hi e ⟨c, hc, hv⟩ => by
    have e1 : x.getD i 0 = c := by rw [List.getD_eq_getElem?_getD, hc]; rfl
    subst hv
    rw [e1]
    exact ⟨_, tg_name, hw _, (hs c F e).1, fun _ => (hs c F e).2⟩).as (rng_filter p)
/-- [.. for sign in x], truths -/
theorem en_lcB {j : Nat} {vs : List Nat} (p : Nat → Bool) (h : E rW ta σ Hk x) (hx : x.length ≤ 100000) (hw : ∀ v, wipe ((wipe σ vs).set j (some v)) vs = wipe σ vs)
    (hs : ∀ c F, Ex Hk F → E rBl te ((wipe σ vs).set j (some (.str (S [c])))) F (p c)) : EN rBl (tLc (iStr ta) (gName j) tYes te vs) σ Hk (x.map p) :=
  (en_lc0 (f := fun i => p (x.getD i 0)) (it_str h) hx fun i v F hi e ⟨c, hc, hv⟩ => by
    have e1 : x.getD i 0 = c := by rw [List.getD_eq_getElem?_getD, hc]; rfl
    subst hv
    rw [e1]
    exact ⟨_, tg_name, hw _, hs c F e⟩).as (map_range 0)
theorem bls_of {F : Hp} : ∀ {vs : List V} {bs : List Bool}, Paired (rBl F) vs bs → vs = bs.map V.bl
  | _, _, .nil => rfl
  | _, _, .cons h t => by cases h; rw [bls_of t]; rfl
theorem ws_of {F : Hp} : ∀ {vs : List V} {l : List W}, Paired (rW F) vs l → vs = l.map fun x => V.str (S x)
  | _, _, .nil => rfl
  | _, _, .cons h t => by cases h; rw [ws_of t]; rfl
theorem of_ws {F : Hp} : ∀ (l : List W), Paired (rW F) (l.map fun x => V.str (S x)) l
  | [] => .nil
  | x :: l => .cons rfl (of_ws l)
theorem e_all {bs : List Bool} (h : E (rLst rBl) ta σ Hk bs) : E rBl (tCB (rAll K) (tCons ta tNil)) σ Hk (bs.all id) := fun H e Q q => h H e _ fun v H2 F g ⟨p, vs, hv, hp, hb⟩ =>
  ⟨p, bs, by rw [hv], sq_of (by rw [g.f _ _ hp, bls_of hb]), q _ H2 F g rfl⟩
theorem dp_ws {F : Hp} : ∀ (l : List W), DpAll K F (l.map fun x => V.str (S x)) (l.map fun x => .str (S x))
  | [] => .nil
  | x :: l => .cons (.str _) (dp_ws l)
/-- plain signs -/
def asc (x : W) : Prop := ∀ c ∈ x, c < 1114112
theorem sh_ws (l : List W) (h : ∀ x ∈ l, asc x) : SeqAt.shaped (.list (l.map fun x => .str (S x))) = true := by
  have k : PyData.canLayAll0 (l.map fun x => PyData.str (S x)) = true ∧ PyData.depthAll (l.map fun x => PyData.str (S x)) ≤ 1 := by
    induction l with
    | nil => exact ⟨rfl, Nat.zero_le _⟩
    | cons x t ih =>
      have i := ih fun y hy => h y (List.mem_cons_of_mem _ hy)
      have o : PyData.strOk (S x) = true := by
        unfold PyData.strOk
        show x.toArray.all _ = true
        simp only [List.all_toArray, List.all_eq_true, decide_eq_true_eq]
        exact h x List.mem_cons_self
      refine ⟨?_, ?_⟩
      · show (PyData.strOk (S x) && PyData.canLayAll0 (t.map fun x => PyData.str (S x))) = true
        rw [i.1, o]; rfl
      · show max 0 (PyData.depthAll (t.map fun x => PyData.str (S x))) ≤ 1
        have := i.2; omega
  show (PyData.canLayAll0 _ && decide (PyData.depthAll _ + 1 ≤ 64)) = true
  rw [k.1, Bool.true_and, decide_eq_true_eq]
  have := k.2
  omega
theorem e_eqNil {l : List W} (h0 : ∀ x ∈ l, asc x) (ha : E (rLst rW) ta σ Hk l) : E rBl (tOp (rEqD K) ta (tLst tNil)) σ Hk (decide (l = [])) := fun H e Q q => ha H e _ fun v H2 F g ⟨p, vs, hv, hp, hb⟩ => by
  refine ⟨Nat.zero_le _, fun d hd => ⟨.list (l.map fun x => .str (S x)), .list [], ?_, .lst (sq_of upd_same) .nil, sh_ws l h0, rfl, ?_⟩⟩
  · rw [hv]
    have hpd : p ≠ d := fun z => by subst z; rw [g.f _ _ hp] at hd; cases hd
    exact .lst (sq_of (by rw [upd_ne hpd, g.f _ _ hp, ws_of hb])) (dp_ws l)
  · refine q _ _ F ⟨g.h.trans (Ex.new hd), g.k, g.f.trans (Ex.new hd), g.n⟩ ?_
    show V.bl _ = V.bl _
    cases l <;> rfl
theorem e_neNil {l : List W} (h0 : ∀ x ∈ l, asc x) (ha : E (rLst rW) ta σ Hk l) : E rBl (tOp (rNeD K) ta (tLst tNil)) σ Hk (!decide (l = [])) := fun H e Q q => ha H e _ fun v H2 F g ⟨p, vs, hv, hp, hb⟩ => by
  refine ⟨Nat.zero_le _, fun d hd => ⟨.list (l.map fun x => .str (S x)), .list [], ?_, .lst (sq_of upd_same) .nil, sh_ws l h0, rfl, ?_⟩⟩
  · rw [hv]
    have hpd : p ≠ d := fun z => by subst z; rw [g.f _ _ hp] at hd; cases hd
    exact .lst (sq_of (by rw [upd_ne hpd, g.f _ _ hp, ws_of hb])) (dp_ws l)
  · refine q _ _ F ⟨g.h.trans (Ex.new hd), g.k, g.f.trans (Ex.new hd), g.n⟩ ?_
    show V.bl _ = V.bl _
    cases l <;> rfl
theorem cutS_S (x : W) (lo hi : Option Int) : cutS (S x) lo hi = S (cutL x lo hi) := by
  unfold cutS cutL
  rw [S_cps, S_len]; rfl
theorem e_sliceW {tl th : TO} {lo hi : Option Int} (h : E rW ta σ Hk x) (h1 : EO tl σ Hk lo) (h2 : EO th σ Hk hi) (hz : x.length ≤ 100000) : E rW (tSl rSlS ta tl th) σ Hk (cutL x lo hi) := fun H e Q q =>
  h H e _ fun v H2 F g hv => h1 H2 g.kh _ fun H3 e3 => h2 H3 (g.kh.trans e3) _ fun H4 e4 => by
    cases hv
    exact ⟨_, rfl, sz_of (by rw [S_len]; exact hz), q _ H4 F ⟨(g.h.trans e3).trans e4, g.k, (g.f.trans e3).trans e4, g.n⟩ (by show V.str _ = V.str _; rw [cutS_S])⟩
theorem cutL_mid (x : W) (a b : Nat) (h : b ≤ x.length) (hab : a ≤ b) : cutL x (some (a : Int)) (some (b : Int)) = (x.drop a).take (b - a) := by
  unfold cutL
  rw [HT.sIx_nat, HT.sIx_nat, Nat.min_eq_left h, Nat.min_eq_left (by omega)]
end
def lettersW : W := [97, 98, 99, 100, 101, 102, 103, 104, 105, 106, 107, 108, 109, 110, 111, 112, 113, 114, 115, 116, 117, 118, 119, 120, 121, 122]
def figuresW : W := [48, 49, 50, 51, 52, 53, 54, 55, 56, 57]
theorem in_letters (c : Nat) : decide (c ∈ lettersW) = let_ c := by
  unfold lettersW let_
  rw [Bool.eq_iff_iff]
  simp only [List.mem_cons, List.mem_nil_iff, or_false, decide_eq_true_eq, Bool.and_eq_true]
  omega
theorem in_figures (c : Nat) : decide (c ∈ figuresW) = dig c := by
  unfold figuresW dig
  rw [Bool.eq_iff_iff]
  simp only [List.mem_cons, List.mem_nil_iff, or_false, decide_eq_true_eq, Bool.and_eq_true]
  omega
theorem in_nsg (c : Nat) : decide (c ∈ lettersW ++ figuresW) = nsg c := by
  unfold nsg
  rw [← in_letters, ← in_figures, Bool.eq_iff_iff]
  simp
def hd1 : W → Bool | [] => false | c :: _ => let_ c
theorem name_eq (x : W) : isName x = ((decide (1 ≤ (x.length : Int)) && decide ((x.length : Int) ≤ 8)) && (hd1 x && x.all nsg) && !decide (x ∈ keptW)) := by
  cases x with
  | nil => rfl
  | cons c r =>
    unfold isName hd1
    rw [Bool.eq_iff_iff]
    simp only [Bool.and_eq_true, decide_eq_true_eq]
    constructor
    · rintro ⟨⟨⟨h1, h2⟩, h3⟩, h4⟩
      exact ⟨⟨⟨by simp; omega, by omega⟩, h2, h3⟩, h4⟩
    · rintro ⟨⟨⟨h1, h2⟩, h3, h5⟩, h4⟩
      exact ⟨⟨⟨by omega, h3⟩, h5⟩, h4⟩
theorem kSS : PySem.W.kitOne K (.type "str") (.type "str") = some true := kit_ty (by decide +kernel)
theorem e_isi {α : Type} {r : Rp α} {σ : L2.St} {Hk : Hp} {ta : TE} {x : α} {tn : Value} {c : V} {u : Value} {b : Bool} (ha : E r ta σ Hk x) (hc : ClsV c u) (ht : ∀ H v, r H v x → ∀ H', Ex H H' → TyX K H' v tn) (hk : PySem.W.kitOne K tn u = some b) :
    E rBl (tCB (rIsi K) (tCons ta (tCons (tC c) tNil))) σ Hk b := fun H a Q q => ha H a _ fun v H2 F g hv => ⟨v, c, tn, u, b, rfl, hc, ht F v hv H2 g.f, hk, q _ H2 F g rfl⟩
theorem ty_W {n : W} : ∀ H v, rW H v n → ∀ H', Ex H H' → TyX K H' v (.type "str") := fun _ v h _ _ => by cases h; exact .base (.str _)
theorem ok_is_name (T : Txt w K mg) : FnOk P w K mg base CX0 1 T.d_is_name.a T.d_is_name.fd ["value"] (sp1 rW rBl (fun x => x.length ≤ 100000) isName) := by
  refine T.d_is_name.F.ok sc_is_name (fun vs H Q Ew h => ?_) (fun cdv A outer s H vs Q Ew hr h => ?_)
  · obtain ⟨_, _, v, x, rfl, _⟩ := h; rfl
  · obtain ⟨Hk, ex, v, x, rfl, hv, hx, q⟩ := h
    cases hv
    refine ⟨_, (pss_cons (ps_if (PW.pt (pw_or (pt_not (pt_val (pe_callB (c_isiK (K := K) rfl) (by rfl) T.n_isinstance (by decide +kernel) (pa_cons (pv 0) (pa_cons (pe_bltn (v := .ty "str") (by rfl) T.n_str (by decide +kernel) rfl) pa_nil))))) (pw_or1 (pt_not (pt_chain op_le op_le pe_int (pe_callB call_len_str (by rfl) T.n_len (by decide +kernel) (pa_cons (pv 0) pa_nil)) (C8.pe_gc (v := .int 8) rfl T.g_NAME_LENGTH)))))) (pss_one (ps_ret pe_bl)) pss_nil)
      (pss_cons (ps_if (PW.pt (pw_or (pt_cmpR op_notIn_sign (pe_ix ix_str (pv 0) pe_int (fun _ _ => rfl)) (C8.pe_gc (v := .str "abcdefghijklmnopqrstuvwxyz") rfl T.g_LETTERS) (by rfl)) (pw_or1 (pt_not (pt_val (pe_callB (cr_allK (K := K) rfl rfl) (by rfl) T.n_all (by decide +kernel) (pa_cons (pe_lc (own := [("sign", 1)]) (g := gName 1) rfl sc_is_name.nd (pi_str (pv 0)) (blkOk_by (N := ["value", "sign"]) (sc := defScope s_is_name) (by decide +kernel)) (fun _ _ _ _ _ => (pg_name (i := 1) sc_is_name.nd rfl (Or.inl rfl) (hf := Or.inr rfl))) (fun _ _ _ _ _ => pts_nil) (fun _ _ _ _ _ => (pe_cmpR op_in_sign (pv 1) (C8.pe_gc (v := .str "abcdefghijklmnopqrstuvwxyz0123456789") rfl T.g_NAME_SIGNS) (by rfl)))) pa_nil))))))) (pss_one (ps_ret pe_bl)) pss_nil)
      (pss_one (ps_ret (pe_cmpR op_notIn_seq (pv 0) (pe_glob (v := .ref T.aK) rfl T.g_KEPT_WORDS rfl) (by rfl)))))), ?_⟩
    have vx : ∀ {F : Hp}, E rW (tVar 0) (L2.start ["value", "sign"] [.str (S x)]) F x := e_var rfl rfl
    refine s_if (K := Hk) (t_or (t_not (t_b (e_isi vx (.ty _) ty_W kSS))) fun _ => t_not (t_test (e_chain (i := 1) (k := 8) e_int (e_lenW vx hx) e_int))) ex (fun c H1 e1 => ?_) (fun c H1 e1 => ?_)
    · refine s_ret (e_bl.as ?_) (ex.trans e1) (Res.at ex e1 q)
      rw [name_eq]
      revert c
      cases (decide (1 ≤ (x.length : Int)) && decide ((x.length : Int) ≤ 8)) <;> simp
    · have hc : (decide (1 ≤ (x.length : Int)) && decide ((x.length : Int) ≤ 8)) = true := by
        revert c
        cases (decide (1 ≤ (x.length : Int)) && decide ((x.length : Int) ≤ 8)) <;> simp
      obtain ⟨c0, r, rfl⟩ : ∃ c0 r, x = c0 :: r := by
        cases x with
        | nil => exact absurd hc (by decide)
        | cons c0 r => exact ⟨c0, r, rfl⟩
      have key : E rBl (tCB (rAll K) (tCons (tLc (iStr (tVar 0)) (gName 1) tYes (tOp (fun x y H Q => ∃ (c : Nat) (z : Str), x = .str ⟨#[c]⟩ ∧ y = .str z ∧ Q (.bl (decide (c ∈ z.cps.toList))) H) (tVar 1) (tC (.str "abcdefghijklmnopqrstuvwxyz0123456789"))) [1]) tNil)) (L2.start ["value", "sign"] [.str (S (c0 :: r))]) Hk ((c0 :: r).all nsg) :=
        (e_all (en_lcB (x := c0 :: r) nsg vx hx (fun _ => rfl) fun c F e => (e_inS (b := lettersW ++ figuresW) (e_var rfl rfl) (e_w (by decide +kernel))).as (in_nsg c)).e).as (by rw [List.all_map]; rfl)
      refine s_if (K := Hk) (t_or (t_test (e_niS (c := c0) (b := lettersW) (e_atW (k := 0) vx e_int (Int.le_refl _) rfl hx) (e_w (by decide +kernel)))) fun _ => t_not (t_b key)) (ex.trans e1) (fun c H2 e2 => ?_) (fun c H2 e2 => ?_)
      · refine s_ret (e_bl.as ?_) ((ex.trans e1).trans e2) (Res.at ex (e1.trans e2) q)
        rw [in_letters] at c
        rw [name_eq, hc]
        dsimp only [hd1]
        revert c
        cases let_ c0 <;> cases (c0 :: r).all nsg <;> simp
      · refine s_ret ((e_inK (l := keptW) (neg := true) vx fun H => by have := T.kK H; rwa [S_map keptW kept kept_S] at this).as ?_) ((ex.trans e1).trans e2) (Res.at ex (e1.trans e2) q)
        rw [in_letters] at c
        rw [name_eq, hc]
        dsimp only [hd1]
        revert c
        cases let_ c0 <;> cases (c0 :: r).all nsg <;> simp
theorem ok__law_is_call (T : Txt w K mg) : FnOk P w K mg base CX0 1 T.d__law_is_call.a T.d__law_is_call.fd ["word"] (sp1 rW rBl (fun _ => True) isCall) := by
  refine T.d__law_is_call.F.ok sc__law_is_call (fun vs H Q Ew h => ?_) (fun cdv A outer s H vs Q Ew hr h => ?_)
  · obtain ⟨_, _, v, x, rfl, _⟩ := h; rfl
  · obtain ⟨Hk, ex, v, x, rfl, hv, hx, q⟩ := h
    cases hv
    refine ⟨_, (pss_one (ps_ret (pe_cmpR op_in_seq (pv 0) (pe_tup (pa_cons pe_str (pa_cons pe_str (pa_cons pe_str (pa_cons pe_str (pa_cons pe_str (pa_cons pe_str pa_nil))))))) (by rfl)))), ?_⟩
    exact s_ret (e_inT (l := calls) (e_var rfl rfl) (ea_w (e_w rfl) (ea_w (e_w rfl) (ea_w (e_w rfl) (ea_w (e_w rfl) (ea_w (e_w rfl) (ea_w (e_w rfl) ea_w0)))))) (by decide)) ex q
theorem asc_one {x : W} (h : asc x) (p : Nat → Bool) : ∀ y ∈ (x.filter p).map (fun c => [c]), asc y := fun y hy => by
  obtain ⟨c, hc, rfl⟩ := List.mem_map.mp hy
  intro d hd
  cases List.mem_singleton.mp hd
  exact h c (List.mem_filter.mp hc).1
theorem ok__law_figures (T : Txt w K mg) : FnOk P w K mg base CX0 1 T.d__law_figures.a T.d__law_figures.fd ["word"] (sp1 rW rBl (fun x => x.length ≤ 100000 ∧ asc x) figs) := by
  refine T.d__law_figures.F.ok sc__law_figures (fun vs H Q Ew h => ?_) (fun cdv A outer s H vs Q Ew hr h => ?_)
  · obtain ⟨_, _, v, x, rfl, _⟩ := h; rfl
  · obtain ⟨Hk, ex, v, x, rfl, hv, ⟨hx, h0⟩, q⟩ := h
    cases hv
    refine ⟨_, (pss_one (ps_ret (pe_and (pe_cmpR op_ne (pv 0) pe_str (nomark _)) (pe_and (pe_cmpR (op_eqD hr.units) (pe_lc (own := [("sign", 1)]) (g := gName 1) rfl sc__law_figures.nd (pi_str (pv 0)) (blkOk_by (N := ["word", "sign"]) (sc := defScope s__law_figures) (by decide +kernel)) (fun _ _ _ _ _ => (pg_name (i := 1) sc__law_figures.nd rfl (Or.inl rfl) (hf := Or.inr rfl))) (fun _ _ _ _ _ => (pts_one (pt_cmpR op_notIn_sign (pv 1) pe_str (by rfl)))) (fun _ _ _ _ _ => (pv 1))) (pe_lst pa_nil) (nomark _)) (pe_one (pe_or (pe_cmpR op_eq (pv 0) pe_str (nomark _)) (pe_one (pe_cmpR op_ne (pe_ix ix_str (pv 0) pe_int (fun _ _ => rfl)) pe_str (nomark _))))))))), ?_⟩
    have vx : ∀ {F : Hp}, E rW (tVar 0) (L2.start ["word", "sign"] [.str (S x)]) F x := e_var rfl rfl
    have en := en_lcS (Hk := Hk) (σ := L2.start ["word", "sign"] [.str (S x)]) (j := 1) (vs := [1]) (tt := tTest (tOp (fun x y H Q => ∃ (c : Nat) (z : Str), x = .str ⟨#[c]⟩ ∧ y = .str z ∧ Q (.bl (!decide (c ∈ z.cps.toList))) H) (tVar 1) (tC (.str "0123456789")))) (te := tVar 1) (fun c => !dig c) vx hx (fun _ => rfl)
      fun c F e => ⟨t_test ((e_niS (c := c) (b := figuresW) (e_var rfl rfl) (e_w (by decide +kernel))).as (by rw [in_figures])), e_var rfl rfl⟩
    have hall : decide ((x.filter fun c => !dig c).map (fun c => [c]) = []) = x.all dig := by
      rw [Bool.eq_iff_iff, decide_eq_true_eq, List.map_eq_nil_iff, List.filter_eq_nil_iff, List.all_eq_true]
      simp
    have last : x ≠ [] → ∀ {F : Hp}, E rBl (tOrV (tOp rEq (tVar 0) (tC (.str "0"))) (tOp rNe (tOp rIxS (tVar 0) (tC (.int 0))) (tC (.str "0")))) (L2.start ["word", "sign"] [.str (S x)]) F (decide (x = [48]) || !decide (x.head? = some 48)) := fun h0 F => by
      cases x with
      | nil => exact absurd rfl h0
      | cons c0 r => exact (e_orV (e_eqW (a := c0 :: r) (e_var rfl rfl) (e_w (a := [48]) rfl)) fun _ => e_neW (e_atW (a := c0 :: r) (k := 0) (c := c0) (e_var rfl rfl) e_int (Int.le_refl _) rfl hx) (e_w (a := [48]) rfl)).as (by simp)
    refine s_ret ((e_andV (e_neW vx (e_w (a := []) rfl)) fun c1 => e_andV ((e_eqNil (asc_one h0 _) en.e).as hall) fun c2 => last (by simpa using c1)).as ?_) ex q
    rw [figs_eq, decide_not, Bool.and_assoc]
end
end F1

set_option Elab.async false
set_option linter.all false
set_option autoImplicit false
set_option maxRecDepth 100000
set_option maxHeartbeats 4000000
/-! # The words of a text -/
namespace F1
open PySem L2 Y
open Pl hiding Sp Ss PA PB RA RW RP RS
section
variable {P : Program} {w : World} {K : PySem.W.Frag} {mg : Str → Option Value} {base : Heap}
theorem toks_run {u : W} (h0 : u ≠ []) (h : ∀ c ∈ u, nsg c = true) {y : W} (hy : sepd y) : toks (u ++ y) = (toks y).map ([u] ++ ·) := by
  cases e : toks y with
  | some ys => exact dw_word h0 h y ys e hy
  | none =>
    have : ∀ u : W, toks (u ++ y) = none := by
      intro u
      induction u with
      | nil => exact e
      | cons c u ih => rw [List.cons_append]; unfold toks; rw [ih]; rfl
    exact this u
theorem toks_sg {c : Nat} (h : sgn c = true) (y : W) : toks (c :: y) = (toks y).map ([[c]] ++ ·) := by
  cases e : toks y with
  | some ys => exact toks_sgn h e
  | none => unfold toks; rw [e]; rfl
theorem toks_bad {c : Nat} (h1 : nsg c = false) (h2 : sgn c = false) (h3 : c ≠ 32) (y : W) : toks (c :: y) = none := by
  unfold toks
  cases toks y with
  | none => rfl
  | some ys => simp [h1, h2, h3]
theorem map_acc (o : Option (List W)) (a b : List W) : (o.map (b ++ ·)).map (a ++ ·) = o.map ((a ++ b) ++ ·) := by cases o <;> simp
theorem drop_at {x : W} {k : Nat} (h : k < x.length) : ∃ c, x[k]? = some c ∧ x.drop k = c :: x.drop (k + 1) := ⟨x[k], by simp [h], by rw [List.drop_eq_getElem_cons h]⟩
theorem take_drop {x : W} {k e : Nat} (h : k ≤ e) : x.drop k = (x.drop k).take (e - k) ++ x.drop e := by
  have := List.take_append_drop (e - k) (x.drop k)
  rw [List.drop_drop, show k + (e - k) = e by omega] at this
  exact this.symm
theorem run_all {x : W} {k e : Nat} (h : ∀ i, k ≤ i → i < e → ∃ c, x[i]? = some c ∧ nsg c = true) : ∀ c ∈ (x.drop k).take (e - k), nsg c = true := by
  intro c hc
  obtain ⟨i, hi, e1⟩ := List.getElem_of_mem hc
  have hl := hi
  rw [List.length_take, List.length_drop] at hl
  obtain ⟨d, h1, h2⟩ := h (k + i) (by omega) (by omega)
  rw [List.getElem_take, List.getElem_drop] at e1
  have : x[k + i]? = some c := by rw [List.getElem?_eq_some_iff]; exact ⟨by omega, e1⟩
  rw [this] at h1
  cases h1
  exact h2
theorem sep_at {x : W} {e : Nat} (h : ∀ c, x[e]? = some c → nsg c = false) : sepd (x.drop e) := fun c r hr => by
  apply h c
  have := congrArg (·[0]?) hr
  simpa using this
/-- what has been read of x up to k -/
def Upto (x : W) (k : Nat) (acc : List W) : Prop := k ≤ x.length ∧ acc.length ≤ k ∧ toks x = (toks (x.drop k)).map (acc ++ ·)
theorem Upto.zero (x : W) : Upto x 0 [] := ⟨Nat.zero_le _, Nat.zero_le _, by cases e : toks x <;> simp [e]⟩
theorem Upto.word {x : W} {k e : Nat} {acc : List W} (h : Upto x k acc) (hk : k < e) (he : e ≤ x.length) (hr : ∀ i, k ≤ i → i < e → ∃ c, x[i]? = some c ∧ nsg c = true) (hs : ∀ c, x[e]? = some c → nsg c = false) :
    Upto x e (acc ++ [(x.drop k).take (e - k)]) := by
  obtain ⟨h1, h2, h3⟩ := h
  refine ⟨he, by simp; omega, ?_⟩
  have key : toks (x.drop k) = (toks (x.drop e)).map ([(x.drop k).take (e - k)] ++ ·) := by
    conv => lhs; rw [take_drop (x := x) (Nat.le_of_lt hk)]
    exact toks_run (by
      intro z
      have := congrArg List.length z
      rw [List.length_take, List.length_drop] at this
      simp at this; omega) (run_all hr) (sep_at hs)
  rw [h3, key, map_acc]
theorem Upto.sign {x : W} {k c : Nat} {acc : List W} (h : Upto x k acc) (hc : x[k]? = some c) (hs : sgn c = true) : Upto x (k + 1) (acc ++ [[c]]) := by
  obtain ⟨h1, h2, h3⟩ := h
  have hk : k < x.length := (List.getElem?_eq_some_iff.mp hc).1
  obtain ⟨c', e1, e2⟩ := drop_at hk
  rw [hc] at e1; cases e1
  exact ⟨hk, by simp; omega, by rw [h3, e2, toks_sg hs, map_acc]⟩
theorem Upto.blank {x : W} {k : Nat} {acc : List W} (h : Upto x k acc) (hc : x[k]? = some 32) : Upto x (k + 1) acc := by
  obtain ⟨h1, h2, h3⟩ := h
  have hk : k < x.length := (List.getElem?_eq_some_iff.mp hc).1
  obtain ⟨c', e1, e2⟩ := drop_at hk
  rw [hc] at e1; cases e1
  exact ⟨hk, by omega, by rw [h3, e2, toks_blank]⟩
theorem Upto.bad {x : W} {k c : Nat} {acc : List W} (h : Upto x k acc) (hc : x[k]? = some c) (h1 : nsg c = false) (h2 : sgn c = false) (h3 : c ≠ 32) : toks x = none := by
  have hk : k < x.length := (List.getElem?_eq_some_iff.mp hc).1
  obtain ⟨c', e1, e2⟩ := drop_at hk
  rw [hc] at e1; cases e1
  rw [h.2.2, e2, toks_bad h1 h2 h3]; rfl
theorem Upto.done {x : W} {acc : List W} (h : Upto x x.length acc) : toks x = some acc := by
  rw [h.2.2, List.drop_length]; simp [toks]
theorem in_signs (c : Nat) : decide (c ∈ [43, 45, 42, 47, 94, 40, 41]) = sgn c := rfl
abbrev lw (l : List W) : List V := l.map fun x => V.str (S x)
theorem give_lst {Hk H H' K1 M1 : Hp} {o : Addr} {l : List W} (g : GM Hk H em K1 H' M1) (hm : M1 o = some (.lst (lw l))) (h0 : H o = none) : ∃ F, Grow Hk H F H' ∧ rLst rW F (.ref o) l := by
  have g2 := g.give hm (by rw [sub_em]; exact h0)
  exact ⟨_, g2.done, o, _, rfl, upd_same, of_ws l⟩
theorem ok_split_words (T : Txt w K mg) : FnOk P w K mg base CX0 1 T.d_split_words.a T.d_split_words.fd ["text"] (sp1 rW (rOpt (rLst rW)) (fun x => x.length ≤ 50000) toks) := by
  refine T.d_split_words.F.ok sc_split_words (fun vs H Q Ew h => ?_) (fun cdv A outer s H vs Q Ew hr h => ?_)
  · obtain ⟨_, _, v, x, rfl, _⟩ := h; rfl
  · obtain ⟨Hk, ex, v, x, rfl, hv, hx, q⟩ := h
    cases hv
    refine ⟨_, (pss_cons (ps_set (i := 1) sc_split_words.nd rfl (Or.inl rfl) (pe_lst pa_nil))
      (pss_cons (ps_set (i := 2) sc_split_words.nd rfl (Or.inl rfl) pe_int)
      (pss_cons (ps_while PassesOwn.never (pt_cmpR op_lt (pv 2) (pe_callB call_len_str (by rfl) T.n_len (by decide +kernel) (pa_cons (pv 0) pa_nil)) (nomark _)) (pss_cons (ps_set (i := 3) sc_split_words.nd rfl (Or.inl rfl) (pe_ix ix_str (pv 0) (pv 2) (fun _ _ => rfl)))
      (pss_one (ps_if (pt_cmpR op_in_sign (pv 3) (C8.pe_gc (v := .str "abcdefghijklmnopqrstuvwxyz0123456789") rfl T.g_NAME_SIGNS) (by rfl)) (pss_cons (ps_set (i := 4) sc_split_words.nd rfl (Or.inl rfl) (pe_op op_add (pv 2) pe_int))
      (pss_cons (ps_while PassesOwn.never (PW.pt (pw_and (pt_cmpR op_lt (pv 4) (pe_callB call_len_str (by rfl) T.n_len (by decide +kernel) (pa_cons (pv 0) pa_nil)) (nomark _)) (pw_and1 (pt_cmpR op_in_sign (pe_ix ix_str (pv 0) (pv 4) (fun _ _ => rfl)) (C8.pe_gc (v := .str "abcdefghijklmnopqrstuvwxyz0123456789") rfl T.g_NAME_SIGNS) (by rfl))))) (pss_one (ps_aug (i := 4) sc_split_words.nd rfl (.inl rfl) pe_int ip_add)))
      (pss_cons (ps_expr (pe_bm PySem.F.plainAttrs_list PySem.F.slot_list_append PySem.F.type_list_append mt_append (pv 1) (pa_cons (pe_slice sl_str (pv 0) (po_some (pv 2)) (po_some (pv 4))) pa_nil)))
      (pss_one (ps_set (i := 2) sc_split_words.nd rfl (Or.inl rfl) (pv 4)))))) (pss_one (ps_if (pt_cmpR op_in_sign (pv 3) (C8.pe_gc (v := .str "+-*/^()") rfl T.g_SIGNS) (by rfl)) (pss_cons (ps_expr (pe_bm PySem.F.plainAttrs_list PySem.F.slot_list_append PySem.F.type_list_append mt_append (pv 1) (pa_cons (pv 3) pa_nil)))
      (pss_one (ps_aug (i := 2) sc_split_words.nd rfl (.inl rfl) pe_int ip_add))) (pss_one (ps_if (pt_cmpR op_eq (pv 3) pe_str (nomark _)) (pss_one (ps_aug (i := 2) sc_split_words.nd rfl (.inl rfl) pe_int ip_add)) (pss_one (ps_ret pe_non))))))))))
      (pss_one (ps_ret (pv 1)))))), ?_⟩
    refine g_nil (GM.start ex) fun o ho g0 => ?_
    dsimp only
    refine s_while (fun m σ' H' => ∃ (k : Nat) (acc : List W) (a b : Option V) (K1 M1 : Hp), σ' = [some (.str (S x)), some (.ref o), some (.int (k : Int)), a, b] ∧ m = x.length - k ∧ GM Hk H em K1 H' M1 ∧ M1 o = some (.lst (lw acc)) ∧ Upto x k acc) _
      ⟨0, [], none, none, _, _, rfl, rfl, g0, upd_same, Upto.zero x⟩ ?_
    rintro m σ' H' ⟨k, acc, a, b, K1, M1, rfl, rfl, g, hm, up⟩
    have vx : ∀ {F : Hp} {a b c d : Option V}, E rW (tVar 0) [some (.str (S x)), a, b, c, d] F x := e_var rfl rfl
    refine ⟨decide ((k : Int) < x.length), K1, g.f, t_test (e_b0 (p := fun i j => decide (i < j)) (e_var (x := (k : Int)) rfl rfl) (e_lenW vx (by omega))), fun hb H1 e1 => ?_, fun hb H1 e1 => ?_⟩
    · have hk : k < x.length := by have := of_decide_eq_true hb; omega
      obtain ⟨c, hc, hd⟩ := drop_at hk
      have g1 := g.ex e1
      refine g_set (r := rW) (x := [c]) (e_atW (k := (k : Int)) vx (e_var rfl rfl) (by omega) (by simpa using hc) (by omega)) g1 fun v1 H2 F2 g2 _ hv1 => ?_
      cases hv1
      dsimp only
      refine g_if (b := nsg c) ((t_test (e_inS (c := c) (b := lettersW ++ figuresW) (e_var rfl rfl) (e_w (by decide +kernel)))).as (in_nsg c)) g2 (fun hn H3 g3 => ?_) (fun hn H3 g3 => ?_)
      · refine g_set (r := rInt) (x := (k : Int) + 1) (e_i0 (f := fun i j => i + j) (e_var (x := (k : Int)) rfl rfl) e_int) g3 fun v2 H4 F4 g4 _ hv2 => ?_
        cases hv2
        dsimp only
        refine s_while (fun m σ' H' => ∃ (e : Nat) (K2 : Hp), σ' = [some (.str (S x)), some (.ref o), some (.int (k : Int)), some (.str (S [c])), some (.int (e : Int))] ∧ m = x.length - e ∧ GM Hk H em K2 H' M1 ∧ k < e ∧ e ≤ x.length ∧ ∀ i, k ≤ i → i < e → ∃ c, x[i]? = some c ∧ nsg c = true) _
          ⟨k + 1, _, by rw [show ((k + 1 : Nat) : Int) = (k : Int) + 1 by omega]; rfl, rfl, g4, by omega, hk, fun i h1 h2 => ⟨c, by rw [show i = k by omega]; exact hc, hn⟩⟩ ?_
        rintro m σ' H' ⟨e, K2, rfl, rfl, gi, he1, he2, hall⟩
        cases he : x[e]? with
        | none =>
          have hel : e = x.length := by have := List.getElem?_eq_none_iff.mp he; omega
          refine ⟨false, K2, gi.f, (t_and (b := false) (t_test (e_b0 (p := fun i j => decide (i < j)) (e_var (x := (e : Int)) rfl rfl) (e_lenW vx (by omega)))) fun z => absurd (of_decide_eq_true z) (by omega)).as (b' := false) (by rw [decide_eq_false (by omega)]; rfl), fun hb => (nomatch hb), fun _ H5 e5 => ?_⟩
          · have g5 := gi.ex e5
            refine g_appE (us := lw acc) (o_var rfl) hm g5 (by rw [List.length_map]; have := up.2.1; have := up.1; omega) (e_sliceW vx (eo_some (e_var (x := (k : Int)) rfl rfl)) (eo_some (e_var (x := (e : Int)) rfl rfl)) (by omega)) fun v3 H6 F6 g6 _ hv3 => ?_
            cases hv3
            refine g_set (r := rInt) (x := (e : Int)) (e_var rfl rfl) g6 fun v4 H7 F7 g7 _ hv4 => ?_
            cases hv4
            refine ⟨x.length - e, by omega, e, acc ++ [(x.drop k).take (e - k)], _, _, F7, _, rfl, rfl, g7, ?_, up.word he1 he2 hall (by rw [he]; exact fun _ z => nomatch z)⟩
            rw [upd_same, cutL_mid x k e he2 (by omega)]
            simp [lw]
        | some c2 =>
          have hel : e < x.length := (List.getElem?_eq_some_iff.mp he).1
          refine ⟨nsg c2, K2, gi.f, (t_and (t_test (e_b0 (p := fun i j => decide (i < j)) (e_var (x := (e : Int)) rfl rfl) (e_lenW vx (by omega)))) fun _ => t_test (e_inS (c := c2) (b := lettersW ++ figuresW) (e_atW (k := (e : Int)) vx (e_var rfl rfl) (by omega) (by simpa using he) (by omega)) (e_w (by decide +kernel)))).as (by rw [in_nsg, decide_eq_true (by omega)]; rfl), fun hb H5 e5 => ?_, fun hb H5 e5 => ?_⟩
          · refine ⟨_, rfl, e_int H5 (gi.ex e5).f _ fun v3 H6 F6 gr hv3 => ?_⟩
            cases hv3
            refine ⟨(e : Int), 1, rfl, rfl, x.length - (e + 1), by omega, e + 1, F6, by rw [show ((e + 1 : Nat) : Int) = (e : Int) + 1 by omega]; rfl, rfl, (gi.ex e5).grow gr, by omega, hel, fun i h1 h2 => ?_⟩
            rcases Nat.lt_or_ge i e with z | z
            · exact hall i h1 z
            · exact ⟨c2, by rw [show i = e by omega]; exact he, hb⟩
          · have g5 := gi.ex e5
            refine g_appE (us := lw acc) (o_var rfl) hm g5 (by rw [List.length_map]; have := up.2.1; have := up.1; omega) (e_sliceW vx (eo_some (e_var (x := (k : Int)) rfl rfl)) (eo_some (e_var (x := (e : Int)) rfl rfl)) (by omega)) fun v3 H6 F6 g6 _ hv3 => ?_
            cases hv3
            refine g_set (r := rInt) (x := (e : Int)) (e_var rfl rfl) g6 fun v4 H7 F7 g7 _ hv4 => ?_
            cases hv4
            refine ⟨x.length - e, by omega, e, acc ++ [(x.drop k).take (e - k)], _, _, F7, _, rfl, rfl, g7, ?_, up.word he1 he2 hall (by rw [he]; exact fun _ z => by cases z; exact hb)⟩
            rw [upd_same, cutL_mid x k e he2 (by omega)]
            simp [lw]
      · refine g_if (b := sgn c) ((t_test (e_inS (c := c) (b := [43, 45, 42, 47, 94, 40, 41]) (e_var rfl rfl) (e_w (by decide +kernel)))).as (in_signs c)) g3 (fun hs H4 g4 => ?_) (fun hs H4 g4 => ?_)
        · refine g_appE (us := lw acc) (o_var rfl) hm g4 (by rw [List.length_map]; have := up.2.1; have := up.1; omega) (e_var (r := rW) (x := [c]) rfl rfl) fun v3 H6 F6 g6 _ hv3 => ?_
          cases hv3
          refine ⟨_, rfl, e_int _ g6.f _ fun v4 H7 F7 gr hv4 => ?_⟩
          cases hv4
          exact ⟨(k : Int), 1, rfl, rfl, x.length - (k + 1), by omega, k + 1, acc ++ [[c]], _, _, F7, _, by rw [show ((k + 1 : Nat) : Int) = (k : Int) + 1 by omega]; rfl, rfl, g6.grow gr, by rw [upd_same]; simp [lw], up.sign hc hs⟩
        · refine g_if (b := decide (c = 32)) ((t_test (e_eqW (a := [c]) (b := [32]) (e_var rfl rfl) (e_w rfl))).as (by simp)) g4 (fun hb H5 g5 => ?_) (fun hb H5 g5 => ?_)
          · have hb := of_decide_eq_true hb
            subst hb
            refine ⟨_, rfl, e_int H5 g5.f _ fun v4 H7 F7 gr hv4 => ?_⟩
            cases hv4
            exact ⟨(k : Int), 1, rfl, rfl, x.length - (k + 1), by omega, k + 1, acc, _, _, F7, _, by rw [show ((k + 1 : Nat) : Int) = (k : Int) + 1 by omega]; rfl, rfl, g5.grow gr, hm, up.blank hc⟩
          · have hb := of_decide_eq_false hb
            exact q .non H5 _ g5.done (by rw [up.bad hc hn hs hb]; rfl)
    · have hk : k = x.length := by have := of_decide_eq_false hb; have := up.1; omega
      subst hk
      have g1 := g.ex e1
      obtain ⟨F, gF, hF⟩ := give_lst g1 hm ho
      exact ⟨.ref o, rfl, q (.ref o) H1 F gF (by rw [up.done]; exact hF)⟩
theorem ok__law_tokens (T : Txt w K mg) : FnOk P w K mg base CX0 1 T.d__law_tokens.a T.d__law_tokens.fd ["words"] (sp1 rW (rOpt (rLst rW)) (fun x => x.length ≤ 50000) toks) := by
  refine T.d__law_tokens.F.ok sc__law_tokens (fun vs H Q Ew h => ?_) (fun cdv A outer s H vs Q Ew hr h => ?_)
  · obtain ⟨_, _, v, x, rfl, _⟩ := h; rfl
  · obtain ⟨Hk, ex, v, x, rfl, hv, hx, q⟩ := h
    cases hv
    refine ⟨_, (pss_cons (ps_set (i := 1) sc__law_tokens.nd rfl (Or.inl rfl) (pe_lst pa_nil))
      (pss_cons (ps_set (i := 2) sc__law_tokens.nd rfl (Or.inl rfl) pe_int)
      (pss_cons (ps_while PassesOwn.never (pt_cmpR op_lt (pv 2) (pe_callB call_len_str (by rfl) T.n_len (by decide +kernel) (pa_cons (pv 0) pa_nil)) (nomark _)) (pss_cons (ps_set (i := 3) sc__law_tokens.nd rfl (Or.inl rfl) (pe_op op_add (pv 2) pe_int))
      (pss_cons (ps_if (pt_cmpR op_in_sign (pe_ix ix_str (pv 0) (pv 2) (fun _ _ => rfl)) pe_str (by rfl)) (pss_one (ps_while PassesOwn.never (PW.pt (pw_and (pt_cmpR op_lt (pv 3) (pe_callB call_len_str (by rfl) T.n_len (by decide +kernel) (pa_cons (pv 0) pa_nil)) (nomark _)) (pw_and1 (pt_cmpR op_in_sign (pe_ix ix_str (pv 0) (pv 3) (fun _ _ => rfl)) pe_str (by rfl))))) (pss_one (ps_set (i := 3) sc__law_tokens.nd rfl (Or.inl rfl) (pe_op op_add (pv 3) pe_int))))) (pss_one (ps_if (pt_cmpR op_notIn_sign (pe_ix ix_str (pv 0) (pv 2) (fun _ _ => rfl)) pe_str (by rfl)) (pss_one (ps_ret pe_non)) pss_nil)))
      (pss_cons (ps_if (pt_cmpR op_ne (pe_ix ix_str (pv 0) (pv 2) (fun _ _ => rfl)) pe_str (nomark _)) (pss_one (ps_expr (pe_bm PySem.F.plainAttrs_list PySem.F.slot_list_append PySem.F.type_list_append mt_append (pv 1) (pa_cons (pe_slice sl_str (pv 0) (po_some (pv 2)) (po_some (pv 3))) pa_nil)))) pss_nil)
      (pss_one (ps_set (i := 2) sc__law_tokens.nd rfl (Or.inl rfl) (pv 3)))))))
      (pss_one (ps_ret (pv 1)))))), ?_⟩
    refine g_nil (GM.start ex) fun o ho g0 => ?_
    dsimp only
    refine s_while (fun m σ' H' => ∃ (k : Nat) (acc : List W) (a : Option V) (K1 M1 : Hp), σ' = [some (.str (S x)), some (.ref o), some (.int (k : Int)), a] ∧ m = x.length - k ∧ GM Hk H em K1 H' M1 ∧ M1 o = some (.lst (lw acc)) ∧ Upto x k acc) _
      ⟨0, [], none, _, _, rfl, rfl, g0, upd_same, Upto.zero x⟩ ?_
    rintro m σ' H' ⟨k, acc, a, K1, M1, rfl, rfl, g, hm, up⟩
    have vx : ∀ {F : Hp} {a b c : Option V}, E rW (tVar 0) [some (.str (S x)), a, b, c] F x := e_var rfl rfl
    refine ⟨decide ((k : Int) < x.length), K1, g.f, t_test (e_b0 (p := fun i j => decide (i < j)) (e_var (x := (k : Int)) rfl rfl) (e_lenW vx (by omega))), fun hb H1 e1 => ?_, fun hb H1 e1 => ?_⟩
    · have hk : k < x.length := by have := of_decide_eq_true hb; omega
      obtain ⟨c, hc, hd⟩ := drop_at hk
      have g1 := g.ex e1
      have hz : (lw acc).length < 100000 := by rw [List.length_map]; have := up.2.1; have := up.1; omega
      have vk : ∀ {F : Hp} {b : Option V}, E rW (tOp rIxS (tVar 0) (tVar 2)) [some (.str (S x)), some (.ref o), some (.int (k : Int)), b] F [c] := e_atW (k := (k : Int)) vx (e_var rfl rfl) (by omega) (by simpa using hc) (by omega)
      refine g_set (r := rInt) (x := (k : Int) + 1) (e_i0 (f := fun i j => i + j) (e_var (x := (k : Int)) rfl rfl) e_int) g1 fun v2 H4 F4 g4 _ hv2 => ?_
      cases hv2
      dsimp only
      refine g_if (b := nsg c) ((t_test (e_inS (c := c) (b := lettersW ++ figuresW) vk (e_w (by decide +kernel)))).as (in_nsg c)) g4 (fun hn H3 g3 => ?_) (fun hn H3 g3 => ?_)
      · refine s_while (fun m σ' H' => ∃ (e : Nat) (K2 : Hp), σ' = [some (.str (S x)), some (.ref o), some (.int (k : Int)), some (.int (e : Int))] ∧ m = x.length - e ∧ GM Hk H em K2 H' M1 ∧ k < e ∧ e ≤ x.length ∧ ∀ i, k ≤ i → i < e → ∃ c, x[i]? = some c ∧ nsg c = true) _
          ⟨k + 1, _, by rw [show ((k + 1 : Nat) : Int) = (k : Int) + 1 by omega]; rfl, rfl, g3, by omega, hk, fun i h1 h2 => ⟨c, by rw [show i = k by omega]; exact hc, hn⟩⟩ ?_
        rintro m σ' H' ⟨e, K2, rfl, rfl, gi, he1, he2, hall⟩
        have tail : ∀ H5, Ex H' H5 → (∀ c, x[e]? = some c → nsg c = false) → ∃ z, True := fun _ _ _ => ⟨0, trivial⟩
        cases he : x[e]? with
        | none =>
          have hel : e = x.length := by have := List.getElem?_eq_none_iff.mp he; omega
          refine ⟨false, K2, gi.f, (t_and (b := false) (t_test (e_b0 (p := fun i j => decide (i < j)) (e_var (x := (e : Int)) rfl rfl) (e_lenW vx (by omega)))) fun z => absurd (of_decide_eq_true z) (by omega)).as (b' := false) (by rw [decide_eq_false (by omega)]; rfl), fun hb => (nomatch hb), fun _ H5 e5 => ?_⟩
          have g5 := gi.ex e5
          refine g_if (b := !decide (c = 32)) ((t_test (e_neW (a := [c]) (b := [32]) vk (e_w rfl))).as (by simp)) g5 (fun _ H8 g8 => ?_) (fun z H8 g8 => ?_)
          · refine g_appE (us := lw acc) (o_var rfl) hm g8 hz (e_sliceW vx (eo_some (e_var (x := (k : Int)) rfl rfl)) (eo_some (e_var (x := (e : Int)) rfl rfl)) (by omega)) fun v3 H6 F6 g6 _ hv3 => ?_
            cases hv3
            refine g_set (r := rInt) (x := (e : Int)) (e_var rfl rfl) g6 fun v4 H7 F7 g7 _ hv4 => ?_
            cases hv4
            refine ⟨x.length - e, by omega, e, acc ++ [(x.drop k).take (e - k)], _, F7, _, rfl, rfl, g7, ?_, up.word he1 he2 hall (by rw [he]; exact fun _ z => nomatch z)⟩
            rw [upd_same, cutL_mid x k e he2 (by omega)]
            simp [lw]
          · have : c = 32 := by simpa using z
            subst this
            exact absurd hn (by decide)
        | some c2 =>
          have hel : e < x.length := (List.getElem?_eq_some_iff.mp he).1
          refine ⟨nsg c2, K2, gi.f, (t_and (t_test (e_b0 (p := fun i j => decide (i < j)) (e_var (x := (e : Int)) rfl rfl) (e_lenW vx (by omega)))) fun _ => t_test (e_inS (c := c2) (b := lettersW ++ figuresW) (e_atW (k := (e : Int)) vx (e_var rfl rfl) (by omega) (by simpa using he) (by omega)) (e_w (by decide +kernel)))).as (by rw [in_nsg, decide_eq_true (by omega)]; rfl), fun hb H5 e5 => ?_, fun hb H5 e5 => ?_⟩
          · refine g_set (r := rInt) (x := (e : Int) + 1) (e_i0 (f := fun i j => i + j) (e_var (x := (e : Int)) rfl rfl) e_int) (gi.ex e5) fun v3 H6 F6 gr _ hv3 => ?_
            cases hv3
            refine ⟨x.length - (e + 1), by omega, e + 1, F6, by rw [show ((e + 1 : Nat) : Int) = (e : Int) + 1 by omega]; rfl, rfl, gr, by omega, hel, fun i h1 h2 => ?_⟩
            rcases Nat.lt_or_ge i e with z | z
            · exact hall i h1 z
            · exact ⟨c2, by rw [show i = e by omega]; exact he, hb⟩
          · have g5 := gi.ex e5
            refine g_if (b := !decide (c = 32)) ((t_test (e_neW (a := [c]) (b := [32]) vk (e_w rfl))).as (by simp)) g5 (fun _ H8 g8 => ?_) (fun z H8 g8 => ?_)
            · refine g_appE (us := lw acc) (o_var rfl) hm g8 hz (e_sliceW vx (eo_some (e_var (x := (k : Int)) rfl rfl)) (eo_some (e_var (x := (e : Int)) rfl rfl)) (by omega)) fun v3 H6 F6 g6 _ hv3 => ?_
              cases hv3
              refine g_set (r := rInt) (x := (e : Int)) (e_var rfl rfl) g6 fun v4 H7 F7 g7 _ hv4 => ?_
              cases hv4
              refine ⟨x.length - e, by omega, e, acc ++ [(x.drop k).take (e - k)], _, F7, _, rfl, rfl, g7, ?_, up.word he1 he2 hall (by rw [he]; exact fun _ z => by cases z; exact hb)⟩
              rw [upd_same, cutL_mid x k e he2 (by omega)]
              simp [lw]
            · have : c = 32 := by simpa using z
              subst this
              exact absurd hn (by decide)
      · refine g_if (b := !(decide (c = 32) || sgn c)) ((t_test (e_niS (c := c) (b := [32, 43, 45, 42, 47, 94, 40, 41]) vk (e_w (by decide +kernel)))).as (by
            congr 1
            rw [← in_signs, Bool.eq_iff_iff]
            simp)) g3 (fun hs H4 g4 => ?_) (fun hs H4 g4 => ?_)
        · rw [Bool.not_eq_true'] at hs
          have h1 : decide (c = 32) = false ∧ sgn c = false := by revert hs; cases decide (c = 32) <;> cases sgn c <;> simp
          exact q .non H4 _ g4.done (by rw [up.bad hc hn h1.2 (of_decide_eq_false h1.1)]; rfl)
        · have hs' : decide (c = 32) = true ∨ sgn c = true := by revert hs; cases decide (c = 32) <;> cases sgn c <;> simp
          refine g_if (b := !decide (c = 32)) ((t_test (e_neW (a := [c]) (b := [32]) vk (e_w rfl))).as (by simp)) g4 (fun z H8 g8 => ?_) (fun z H8 g8 => ?_)
          · have hs2 : sgn c = true := by
              rcases hs' with h | h
              · rw [h] at z; cases z
              · exact h
            refine g_appE (us := lw acc) (o_var rfl) hm g8 hz (e_sliceW vx (eo_some (e_var (x := (k : Int)) rfl rfl)) (eo_some (e_var (x := ((k + 1 : Nat) : Int)) rfl (by rw [show ((k + 1 : Nat) : Int) = (k : Int) + 1 by omega]; rfl))) (by omega)) fun v3 H6 F6 g6 _ hv3 => ?_
            cases hv3
            refine g_set (r := rInt) (x := (k : Int) + 1) (e_var rfl rfl) g6 fun v4 H7 F7 g7 _ hv4 => ?_
            cases hv4
            refine ⟨x.length - (k + 1), by omega, k + 1, acc ++ [[c]], _, F7, _, by rw [show ((k + 1 : Nat) : Int) = (k : Int) + 1 by omega]; rfl, rfl, g7, ?_, up.sign hc hs2⟩
            rw [upd_same, cutL_mid x k (k + 1) hk (by omega), hd]
            simp [lw]
          · have : c = 32 := by simpa using z
            subst this
            refine g_set (r := rInt) (x := (k : Int) + 1) (e_var rfl rfl) g8 fun v4 H7 F7 g7 _ hv4 => ?_
            cases hv4
            exact ⟨x.length - (k + 1), by omega, k + 1, acc, _, F7, _, by rw [show ((k + 1 : Nat) : Int) = (k : Int) + 1 by omega]; rfl, rfl, g7, hm, up.blank hc⟩
    · have hk : k = x.length := by have := of_decide_eq_false hb; have := up.1; omega
      subst hk
      have g1 := g.ex e1
      obtain ⟨F, gF, hF⟩ := give_lst g1 hm ho
      exact ⟨.ref o, rfl, q (.ref o) H1 F gF (by rw [up.done]; exact hF)⟩
theorem e_splitS {σ : L2.St} {Hk : Hp} {z : Str} {l : List W} (h : (Txt.split z " ").map id = l.map S) (hz : z.length + 2 ≤ 100000) : EN rW (tM1 (fun x xs H Q => ∃ a b, x = .str a ∧ xs = [.str b] ∧ (b.length == 0) = false ∧ a.length + 2 ≤ sizeLine ∧ rNewStrs (Txt.split a b) H Q) (tC (.str z)) (tC (.str " "))) σ Hk l :=
  fun H e Q q => ⟨⟨_, rfl⟩, z, " ", rfl, rfl, rfl, sz_of hz, fun p hp => q p (lw l) _ Hk (Grow.of e (Ex.new hp)) (e.free hp) hp (by rw [upd_same, ← List.map_id (Txt.split z " "), h]; simp [lw]) (of_ws l)⟩
theorem e_niL {σ : L2.St} {Hk : Hp} {ta tb : TE} {a : W} {l : List W} (ha : E rW ta σ Hk a) (hb : E (rLst rW) tb σ Hk l) : E rBl (tOp (rIn K true) ta tb) σ Hk (!decide (a ∈ l)) :=
  fun H e Q q => two ha hb H e _ fun v u H2 F g hv ⟨p, vs, hu, hp, hw⟩ => by
    cases hv
    refine ⟨p, _, hu, .inl (sq_of (g.f _ _ hp)), rfl, by rw [ws_of hw]; exact flat_W l, q _ H2 F g ?_⟩
    show V.bl (!inV _ _) = V.bl _
    rw [ws_of hw, inV_W]
theorem ok__law_is_name (T : Txt w K mg) : FnOk P w K mg base CX0 1 T.d__law_is_name.a T.d__law_is_name.fd ["word"] (sp1 rW rBl (fun x => x.length ≤ 100000 ∧ asc x) isName) := by
  refine T.d__law_is_name.F.ok sc__law_is_name (fun vs H Q Ew h => ?_) (fun cdv A outer s H vs Q Ew hr h => ?_)
  · obtain ⟨_, _, v, x, rfl, _⟩ := h; rfl
  · obtain ⟨Hk, ex, v, x, rfl, hv, ⟨hx, h0⟩, q⟩ := h
    cases hv
    refine ⟨_, (pss_cons (ps_if (PW.pt (pw_or (pt_not (pt_chain op_le op_le pe_int (pe_callB call_len_str (by rfl) T.n_len (by decide +kernel) (pa_cons (pv 0) pa_nil)) pe_int)) (pw_or1 (pt_cmpR op_notIn_sign (pe_ix ix_str (pv 0) pe_int (fun _ _ => rfl)) pe_str (by rfl))))) (pss_one (ps_ret pe_bl)) pss_nil)
      (pss_cons (ps_if (pt_cmpR (op_neD hr.units) (pe_lc (own := [("sign", 1)]) (g := gName 1) rfl sc__law_is_name.nd (pi_str (pv 0)) (blkOk_by (N := ["word", "sign"]) (sc := defScope s__law_is_name) (by decide +kernel)) (fun _ _ _ _ _ => (pg_name (i := 1) sc__law_is_name.nd rfl (Or.inl rfl) (hf := Or.inr rfl))) (fun _ _ _ _ _ => (pts_one (pt_cmpR op_notIn_sign (pv 1) pe_str (by rfl)))) (fun _ _ _ _ _ => (pv 1))) (pe_lst pa_nil) (nomark _)) (pss_one (ps_ret pe_bl)) pss_nil)
      (pss_one (ps_ret (pe_cmpR op_notIn_seq (pv 0) (pe_split pe_str pe_str) (by rfl)))))), ?_⟩
    have vx : ∀ {F : Hp}, E rW (tVar 0) (L2.start ["word", "sign"] [.str (S x)]) F x := e_var rfl rfl
    have first : (decide (1 ≤ (x.length : Int)) && decide ((x.length : Int) ≤ 8)) = true → E rBl (tOp (fun x y H Q => ∃ (c : Nat) (z : Str), x = .str ⟨#[c]⟩ ∧ y = .str z ∧ Q (.bl (!decide (c ∈ z.cps.toList))) H) (tOp rIxS (tVar 0) (tC (.int 0))) (tC (.str "abcdefghijklmnopqrstuvwxyz"))) (L2.start ["word", "sign"] [.str (S x)]) Hk (!(hd1 x)) := fun hc => by
      cases x with
      | nil => exact absurd hc (by decide)
      | cons c0 r => exact (e_niS (c := c0) (b := lettersW) (e_atW (a := c0 :: r) (k := 0) (e_var rfl rfl) e_int (Int.le_refl _) rfl hx) (e_w (by decide +kernel))).as (by rw [in_letters]; rfl)
    refine s_if (K := Hk) (t_or (t_not (t_test (e_chain (i := 1) (k := 8) e_int (e_lenW vx hx) e_int))) fun z => t_test (first (by simpa using z))) ex (fun c H1 e1 => ?_) (fun c H1 e1 => ?_)
    · refine s_ret (e_bl.as ?_) (ex.trans e1) (Res.at ex e1 q)
      rw [name_eq]
      revert c
      cases (decide (1 ≤ (x.length : Int)) && decide ((x.length : Int) ≤ 8)) <;> cases (hd1 x) <;> simp
    · have hc : (decide (1 ≤ (x.length : Int)) && decide ((x.length : Int) ≤ 8)) = true ∧ (hd1 x) = true := by
        revert c
        cases (decide (1 ≤ (x.length : Int)) && decide ((x.length : Int) ≤ 8)) <;> cases (hd1 x) <;> simp
      have en := en_lcS (Hk := Hk) (σ := L2.start ["word", "sign"] [.str (S x)]) (j := 1) (vs := [1]) (tt := tTest (tOp (fun x y H Q => ∃ (c : Nat) (z : Str), x = .str ⟨#[c]⟩ ∧ y = .str z ∧ Q (.bl (!decide (c ∈ z.cps.toList))) H) (tVar 1) (tC (.str "abcdefghijklmnopqrstuvwxyz0123456789")))) (te := tVar 1) (fun c => !nsg c) vx hx (fun _ => rfl)
        fun c F e => ⟨t_test ((e_niS (c := c) (b := lettersW ++ figuresW) (e_var rfl rfl) (e_w (by decide +kernel))).as (by rw [in_nsg])), e_var rfl rfl⟩
      have hall : (!decide ((x.filter fun c => !nsg c).map (fun c => [c]) = [])) = !x.all nsg := by
        congr 1
        rw [Bool.eq_iff_iff, decide_eq_true_eq, List.map_eq_nil_iff, List.filter_eq_nil_iff, List.all_eq_true]
        simp
      refine s_if (K := Hk) (b := !x.all nsg) (t_test ((e_neNil (asc_one h0 _) en.e).as hall)) (ex.trans e1) (fun c2 H2 e2 => ?_) (fun c2 H2 e2 => ?_)
      · refine s_ret (e_bl.as ?_) ((ex.trans e1).trans e2) (Res.at ex (e1.trans e2) q)
        rw [name_eq, hc.1, hc.2]
        revert c2
        cases x.all nsg <;> simp
      · refine s_ret ((e_niL (l := keptW) vx (e_splitS (by decide +kernel) (by decide +kernel)).e).as ?_) ((ex.trans e1).trans e2) (Res.at ex (e1.trans e2) q)
        rw [name_eq, hc.1, hc.2]
        revert c2
        cases x.all nsg <;> simp
end
end F1

set_option Elab.async false
set_option linter.all false
set_option autoImplicit false
set_option maxRecDepth 100000
set_option maxHeartbeats 4000000
/-! # Trees as tuples; nodes, steps -/
namespace F1
open PySem L2 Y
open Pl hiding Sp Ss PA PB RA RW RP RS
def opW : Op → Str | .add => "add" | .sub => "sub" | .mul => "mul" | .div => "div"
def rTv : Rp (List V) := fun H v vs => ∃ p, v = .ref p ∧ H p = some (.tup vs)
instance : Mono rTv := ⟨fun e ⟨p, h1, h2⟩ => ⟨p, h1, e _ _ h2⟩⟩
def rTrG : Tr → Hp → V → Prop
  | .num s, H, v => rTv H v [.str "num", .str (S s)]
  | .name s, H, v => rTv H v [.str "name", .str (S s)]
  | .call s t, H, v => ∃ u, rTv H v [.str "call", .str (S s), u] ∧ rTrG t H u
  | .neg t, H, v => ∃ u, rTv H v [.str "neg", u] ∧ rTrG t H u
  | .pow t d, H, v => ∃ u, rTv H v [.str "pow", u, .int (d : Int)] ∧ rTrG t H u
  | .op o l r, H, v => ∃ u u2, rTv H v [.str (opW o), u, u2] ∧ rTrG l H u ∧ rTrG r H u2
def rTr : Rp Tr := fun H v t => rTrG t H v
theorem rTr_up : ∀ {t : Tr} {H H' : Hp} {v : V}, Ex H H' → rTrG t H v → rTrG t H' v
  | .num s, _, _, _, e, h => up (r := rTv) e h
  | .name s, _, _, _, e, h => up (r := rTv) e h
  | .call s t, _, _, _, e, ⟨u, h1, h2⟩ => ⟨u, up (r := rTv) e h1, rTr_up e h2⟩
  | .neg t, _, _, _, e, ⟨u, h1, h2⟩ => ⟨u, up (r := rTv) e h1, rTr_up e h2⟩
  | .pow t d, _, _, _, e, ⟨u, h1, h2⟩ => ⟨u, up (r := rTv) e h1, rTr_up e h2⟩
  | .op o l r, _, _, _, e, ⟨u, u2, h1, h2, h3⟩ => ⟨u, u2, up (r := rTv) e h1, rTr_up e h2, rTr_up e h3⟩
instance : Mono rTr := ⟨fun e h => rTr_up e h⟩
def kw : Stp → Str | .num _ => "num" | .name _ => "name" | .call _ => "call" | .neg => "neg" | .pow _ => "pow" | .op o => opW o
def thing : Stp → V | .num s => .str (S s) | .name s => .str (S s) | .call s => .str (S s) | .pow d => .int (d : Int) | _ => .non
def rStp : Rp Stp := fun H v s => rTv H v [.str (kw s), thing s]
instance : Mono rStp := ⟨fun e h => up (r := rTv) e h⟩
/-- a word of the law -/
def rWd : Rp Stp := fun _ v s => v = .str (S s.w)
instance : Mono rWd := ⟨fun _ h => h⟩
instance : Plain rWd := ⟨id⟩
/-- a tuple of things -/
def rTup {α : Type} (r : Rp α) : Rp (List α) := fun H v xs => ∃ a vs, v = .ref a ∧ H a = some (.tup vs) ∧ Paired (r H) vs xs
instance {α : Type} {r : Rp α} [Mono r] : Mono (rTup r) := ⟨fun e ⟨a, vs, h1, h2, h3⟩ => ⟨a, vs, h1, e a _ h2, p_up e h3⟩⟩
/-- what stands in a node behind its first item -/
def rPt : Rp (Option Tr) := fun H v o => match o with | some t => rTr H v t | none => (∃ z, v = .str z) ∨ ∃ i, v = .int i
instance : Mono rPt := ⟨fun {H H' v o} e h => by cases o with | none => exact h | some t => exact up (r := rTr) e h⟩
def parts : Tr → List (Option Tr)
  | .num _ => [none]
  | .name _ => [none]
  | .call _ t => [none, some t]
  | .neg t => [some t]
  | .pow t _ => [some t, none]
  | .op _ l r => [some l, some r]
theorem parts_kids (t : Tr) : (parts t).filterMap id = kids t := by cases t <;> rfl
theorem node_tup {H : Hp} {v : V} {t : Tr} (h : rTr H v t) : ∃ x0 vs, rTv H v (x0 :: vs) ∧ Paired (rPt H) vs (parts t) := by
  cases t with
  | num s => exact ⟨_, _, h, .cons (.inl ⟨_, rfl⟩) .nil⟩
  | name s => exact ⟨_, _, h, .cons (.inl ⟨_, rfl⟩) .nil⟩
  | call s t => obtain ⟨u, h1, h2⟩ := h; exact ⟨_, _, h1, .cons (.inl ⟨_, rfl⟩) (.cons h2 .nil)⟩
  | neg t => obtain ⟨u, h1, h2⟩ := h; exact ⟨_, _, h1, .cons h2 .nil⟩
  | pow t d => obtain ⟨u, h1, h2⟩ := h; exact ⟨_, _, h1, .cons h2 (.cons (.inr ⟨_, rfl⟩) .nil)⟩
  | op o l r => obtain ⟨u, u2, h1, h2, h3⟩ := h; exact ⟨_, _, h1, .cons h2 (.cons h3 .nil)⟩
theorem ix_tupK2 : True := trivial
section
variable {P : Program} {w : World} {K : PySem.W.Frag} {mg : Str → Option Value} {base : Heap}
section
variable {α β : Type} {r : Rp α} {s : Rp β} {σ : L2.St} {Hk H M K0 H0 M0 : Hp} {ta tb tc te tl to : TE} {tt : TT} {D : Ends} {Q : VK}
theorem e_v {v : V} {i : Nat} (hi : σ[i]? = some (some v)) : E rV (tVar i) σ Hk v := e_var rfl hi
theorem e_ixT {vs : List V} {k : Nat} {y : V} (ha : E rTv ta σ Hk vs) (hy : vs[k]? = some y) : E rV (tOp (rIxT K) ta (tC (.int (k : Int)))) σ Hk y :=
  fun H e Q q => ha H e _ fun v H2 F g ⟨p, hv, hp⟩ => ⟨p, vs, (k : Int), y, hv, rfl, st_of (g.f _ _ hp), atI_nat hy, q y H2 F g rfl⟩
theorem E.ofV {v : V} {x : α} (h : E rV ta σ Hk v) (hr : r Hk v x) [Mono r] : E r ta σ Hk x := fun H e Q q => h H e Q fun u H2 F g hu => by cases hu; exact q _ H2 F g (up g.k hr)
theorem E.toV {v : V} {x : α} (h : E r ta σ Hk x) (hr : ∀ F u, r F u x → u = v) : E rV ta σ Hk v := fun H e Q q => h H e Q fun u H2 F g hu => q u H2 F g (hr F u hu)
theorem e_tup2 {a b : V} (ha : E rV ta σ Hk a) (hb : E rV tb σ Hk b) : E rTv (tTup (tCons ta (tCons tb tNil))) σ Hk [a, b] :=
  fun H e Q q => two ha hb H e _ fun v u H2 F g hv hu => ⟨two_le, fun p hp => q (.ref p) _ _ (g.new hp) ⟨p, rfl, by rw [upd_same]; cases hv; cases hu; rfl⟩⟩
theorem it_tup {xs : List α} [Mono r] (h : E (rTup r) tl σ Hk xs) : IT (rAt r xs) (iTup K tl) σ Hk xs.length := fun H a Rk q => h H a _ fun v H2 F g ⟨b, vs, hv, hb, hp⟩ =>
  ⟨b, hv, ⟨vs, st_of (g.f b _ hb)⟩, by
    have w := walk_tup (K := K) (a := b) (xs := vs)
    rw [p_len hp] at w
    refine q _ H2 F _ _ g w (fun H' e => st_of (e b _ hb)) fun i H3 x H4 F3 hi e1 e2 hy => ?_
    obtain ⟨rfl, hx⟩ := hy
    obtain ⟨z, h1, h2⟩ := p_atl hp hx
    exact ⟨F3, Grow.refl e2, z, h1, up e1 h2⟩⟩
/-- a walk over a known tuple -/
theorem g_forT {xs : List α} [Mono r] {gt : TG} {tw : TS} (h : E (rTup r) tl σ Hk xs) (g : GM K0 H0 M0 Hk H M) (inv : List α → Hp → Hp → L2.St → Prop) (h0 : ∀ F, Ex Hk F → inv xs F M σ)
    (hu : ∀ l F F' M' σ', Ex F F' → inv l F M' σ' → inv l F' M' σ')
    (hs : ∀ F0, Ex Hk F0 → ∀ x rest v F M' σ' H', inv (x :: rest) F M' σ' → GM K0 H0 M0 F H' M' → Ex F0 F → r F v x →
      gt v σ' H' fun σ1 H1 => tw { D with nx := fun σ2 H2 => ∃ F2 M2, GM K0 H0 M0 F2 H2 M2 ∧ Ex F0 F2 ∧ inv rest F2 M2 σ2, ct := fun σ2 H2 => ∃ F2 M2, GM K0 H0 M0 F2 H2 M2 ∧ Ex F0 F2 ∧ inv rest F2 M2 σ2, bk := D.nx } σ1 H1)
    (hd : ∀ F M' σ' H', inv [] F M' σ' → GM K0 H0 M0 F H' M' → Ex Hk F → D.nx σ' H') : tFor (iTup K tl) gt tw D σ H := by
  refine g_forI (it_tup (K := K) h) g (fun i => inv (xs.drop i)) h0 (fun F0 e0 i v F M' σ' H' hi ii a e _ hR => ?_) (fun i => hu _) fun F M' σ' H' ii a e => hd F M' σ' H' (by rwa [List.drop_of_length_le (Nat.le_refl _)] at ii) a e
  obtain ⟨z, h1, h2⟩ := hR
  have hz : xs.drop i = z :: xs.drop (i + 1) := by
    obtain ⟨hl, e1⟩ := List.getElem?_eq_some_iff.mp h1
    rw [List.drop_eq_getElem_cons hl, e1]
  rw [hz] at ii
  exact hs F0 e0 z _ v F M' σ' H' ii a e h2
/-- what stands behind the first item -/
theorem e_tail {x0 : V} {vs : List V} {xs : List α} [Mono r] (h : E rTv ta σ Hk (x0 :: vs)) (hp : Paired (r Hk) vs xs) : E (rTup r) (tSl (rSlT K) ta (tPart (tC (.int 1))) tNoPart) σ Hk xs := fun H e Q q =>
  h H e _ fun v H2 F g ⟨p, hv, hp'⟩ => ⟨1, rfl, p, x0 :: vs, hv, st_of (g.f _ _ hp'), by
    rintro ⟨z, _⟩
    have : HT.sIx (x0 :: vs).length 0 (some ((1 : Nat) : Int)) = 0 := z
    rw [HT.sIx_nat] at this
    simp at this, fun d hd => q _ _ _ (g.new hd) ⟨d, _, rfl, upd_same, by
      have : cutV (x0 :: vs) (some 1) none = vs := by
        show cutL (x0 :: vs) (some ((1 : Nat) : Int)) none = vs
        rw [cutL_from]; rfl
      rw [this]
      exact p_up (g.k.trans (Ex.new (g.f.free hd))) hp⟩⟩
theorem p_snoc {F : V → α → Prop} : ∀ {vs : List V} {l : List α} {x : α}, Paired F vs (l ++ [x]) → ∃ vs' v, vs = vs' ++ [v] ∧ Paired F vs' l ∧ F v x
  | _, [], _, .cons h .nil => ⟨[], _, rfl, .nil, h⟩
  | _, y :: l, _, .cons h t => by
    obtain ⟨vs', v, e, h1, h2⟩ := p_snoc t
    exact ⟨_ :: vs', v, by rw [e]; rfl, .cons h h1, h2⟩
/-- a stack: its top ahead -/
theorem g_popS {o : Addr} {vs : List V} {u : α} {L : List α} (ho : ∀ Q : VK, Q (.ref o) H → to σ H Q) (hm : M o = some (.lst vs)) (hp : Paired (r Hk) vs (u :: L).reverse) (g : GM K0 H0 M0 Hk H M)
    (k : ∀ v ws, r Hk v u → Paired (r Hk) ws L.reverse → GM K0 H0 M0 Hk (upd H o (.lst ws)) (upd M o (.lst ws)) → Q v (upd H o (.lst ws))) : tBM0 K "list" rPop to σ H Q := by
  rw [List.reverse_cons] at hp
  obtain ⟨ws, v, e, h1, h2⟩ := p_snoc hp
  subst e
  exact g_pop ho hm g fun g2 => k v ws h2 h1 g2
theorem p_push {F : V → α → Prop} {ws : List V} {L : List α} {v : V} {u : α} (h : Paired F ws L.reverse) (hv : F v u) : Paired F (ws ++ [v]) (u :: L).reverse := by
  rw [List.reverse_cons]; exact p_app h (.cons hv .nil)
end
theorem kTT : PySem.W.kitOne K (.type "tuple") (.type "tuple") = some true := kit_ty (by decide +kernel)
theorem kST : PySem.W.kitOne K (.type "str") (.type "tuple") = some false := kit_ty (by decide +kernel)
theorem kIT : PySem.W.kitOne K (.type "int") (.type "tuple") = some false := kit_ty (by decide +kernel)
theorem rTr_tup {H : Hp} {v : V} {t : Tr} (h : rTr H v t) : ∃ vs, rTv H v vs := by
  obtain ⟨x0, vs, h1, _⟩ := node_tup h
  exact ⟨_, h1⟩
theorem ok_nodes_of (T : Txt w K mg) : FnOk P w K mg base CX0 1 T.d_nodes_of.a T.d_nodes_of.fd ["tree"] (sp1 rTr (rLst rTr) (fun t => size t ≤ 10000) nds) := by
  refine T.d_nodes_of.F.ok sc_nodes_of (fun vs H Q Ew h => ?_) (fun cdv A outer s H vs Q Ew hr h => ?_)
  · obtain ⟨_, _, v, x, rfl, _⟩ := h; rfl
  · obtain ⟨Hk, ex, v, t, rfl, hv, hz, q⟩ := h
    refine ⟨_, (pss_cons (ps_set (i := 1) sc_nodes_of.nd rfl (Or.inl rfl) (pe_lst pa_nil))
      (pss_cons (ps_set (i := 2) sc_nodes_of.nd rfl (Or.inl rfl) (pe_lst (pa_cons (pv 0) pa_nil)))
      (pss_cons (ps_while PassesOwn.never (pt_cmpR op_gt (pe_callB (c_lenK (K := K) rfl) (by rfl) T.n_len (by decide +kernel) (pa_cons (pv 2) pa_nil)) pe_int (nomark _)) (pss_cons (ps_set (i := 3) sc_nodes_of.nd rfl (Or.inl rfl) (pe_bm0 PySem.F.plainAttrs_list PySem.F.slot_list_pop PySem.F.type_list_pop mt_pop (pv 2)))
      (pss_cons (ps_expr (pe_bm PySem.F.plainAttrs_list PySem.F.slot_list_append PySem.F.type_list_append mt_append (pv 1) (pa_cons (pv 3) pa_nil)))
      (pss_one (ps_for PassesOwn.never rfl (pi_tup (pe_slice (sl_tupK (K := K) rfl) (pv 3) (po_some pe_int) po_none)) (pg_name (i := 4) sc_nodes_of.nd rfl (Or.inl rfl) (hf := Or.inr rfl))
      (pss_one (ps_if (pt_val (pe_callB (c_isiK (K := K) rfl) (by rfl) T.n_isinstance (by decide +kernel) (pa_cons (pv 4) (pa_cons (pe_bltn (v := .ty "tuple") (by rfl) T.n_tuple (by decide +kernel) rfl) pa_nil)))) (pss_one (ps_expr (pe_bm PySem.F.plainAttrs_list PySem.F.slot_list_append PySem.F.type_list_append mt_append (pv 2) (pa_cons (pv 4) pa_nil)))) pss_nil)))))))
      (pss_one (ps_ret (pe_revL (pv 1))))))), ?_⟩
    refine g_nil (GM.start ex) fun o ho g0 => ?_
    dsimp only
    refine g_setN (xs := [t]) (r := rTr) (en_one (e_var hv rfl)) g0 fun p ws H1 F1 g1 e1 hp hw => ?_
    dsimp only
    have hop : o ≠ p := fun z => by subst z; rw [upd_same] at hp; cases hp
    refine s_while (fun m σ' H' => ∃ (acc wait : List Tr) (av wv : List V) (a b : Option V) (K1 M1 : Hp), σ' = [some v, some (.ref o), some (.ref p), a, b] ∧ m = szs wait ∧ GM Hk H em K1 H' M1 ∧ M1 o = some (.lst av) ∧ M1 p = some (.lst wv) ∧ Paired (rTr K1) av acc ∧ Paired (rTr K1) wv wait.reverse ∧
        acc ++ pres wait = pre t ∧ acc.length + szs wait ≤ size t) _
      ⟨[], [t], [], ws, none, none, _, _, rfl, rfl, g1, by rw [upd_ne hop, upd_same], upd_same, .nil, hw, by simp [pres], by simp [szs]⟩ ?_
    rintro m σ' H' ⟨acc, wait, av, wv, a, b, K1, M1, rfl, rfl, g, hm, hmp, ha, hw2, hpre, hsz⟩
    have lw : wv.length = wait.length := by have := p_len hw2; simpa using this
    refine ⟨decide ((wait.length : Int) > 0), jn K1 M1, g.jn, t_test (e_b0 (p := fun i j => decide (i > j)) ((fun H2 e Q q => ⟨.ref p, rfl, p, wv, rfl, .inl (sq_of (e _ _ (g.jr hmp))), q _ H2 _ (Grow.refl e) (by show V.int _ = V.int _; rw [lw])⟩ : E rInt _ _ (jn K1 M1) (wait.length : Int))) e_int), fun hb H1 e1 => ?_, fun hb H1 e1 => ?_⟩
    · obtain ⟨n, wait, rfl⟩ : ∃ n w', wait = n :: w' := by
        cases wait with
        | nil => exact absurd hb (by decide)
        | cons n w' => exact ⟨n, w', rfl⟩
      have g1 := g.ex e1
      refine g_popS (r := rTr) (o_var rfl) hmp hw2 g1 fun nv ws hn hws g2 => ?_
      dsimp only
      refine g_appE (us := av) (o_var rfl) (by rw [upd_ne hop]; exact hm) g2 (by rw [p_len ha]; simp only [szs] at hsz; omega) (e_var (r := rTr) hn rfl) fun nv2 H3 F3 g3 e3 hn2 => ?_
      obtain ⟨x0, vs, ht, hps⟩ := node_tup hn
      have hcell : (nv2 = nv) → True := fun _ => trivial
      refine g_forT (r := rPt) (e_tail (e_var (up e3 ht) rfl) (p_up e3 hps)) g3 (fun rest F M' σ' => ∃ (done : List (Option Tr)) (b : Option V) (wv : List V), parts n = done ++ rest ∧ σ' = [some v, some (.ref o), some (.ref p), some nv, b] ∧ M' o = some (.lst (av ++ [nv2])) ∧ M' p = some (.lst wv) ∧ Paired (rTr F) (av ++ [nv2]) (acc ++ [n]) ∧ Paired (rTr F) wv (wait.reverse ++ done.filterMap id))
        (fun F e => ⟨[], b, ws, rfl, rfl, upd_same, by rw [upd_ne (Ne.symm hop), upd_same], p_app (p_up (e3.trans e) ha) (.cons (up e hn2) .nil), by simpa using p_up (e3.trans e) hws⟩)
        (fun rest F F' M' σ' e ⟨done, b, wv, i1, i2, i3, i4, i5, i6⟩ => ⟨done, b, wv, i1, i2, i3, i4, p_up e i5, p_up e i6⟩) ?_ ?_
      · rintro F0 e0 x rest xv F M' σ' H' ⟨done, b, wv, i1, rfl, i3, i4, i5, i6⟩ gf ef hx
        show tIfS _ _ _ _ _ _
        dsimp only [List.set]
        have lim : wv.length < 100000 := by
          have h1 := p_len i6
          have h2 : done.length ≤ 2 := by
            have := congrArg List.length i1
            rw [List.length_append] at this
            have : (parts n).length ≤ 2 := by cases n <;> simp [parts]
            omega
          have h3 := List.length_filterMap_le id done
          have h4 := szs_len wait
          simp only [szs] at hsz
          rw [h1, List.length_append, List.length_reverse]
          omega
        cases x with
        | some u =>
          obtain ⟨us, hus⟩ := rTr_tup (show rTr F xv u from hx)
          refine g_if (b := true) (t_b (fun H2 e Q q => (e_isi (r := rTv) (x := us) (b := true) (u := .type "tuple") (e_var (i := 4) (up gf.jle hus) rfl) (.ty _) (fun H v h H' e => by
              obtain ⟨p, rfl, hp⟩ := h
              exact .base (.tup (e _ _ hp))) kTT) H2 e Q q)) gf (fun _ H4 g4 => ?_) (fun z => nomatch z)
          refine g_appE (us := wv) (o_var rfl) i4 g4 lim (e_var (r := rTr) (x := u) hx rfl) fun u2 H5 F5 g5 e5 hu2 => ?_
          refine ⟨F5, _, g5, ef.trans e5, done ++ [some u], some xv, wv ++ [u2], by rw [i1]; simp, rfl, by rw [upd_ne hop]; exact i3, upd_same, p_up e5 i5, ?_⟩
          rw [List.filterMap_append, ← List.append_assoc]
          exact p_app (p_up e5 i6) (.cons hu2 .nil)
        | none =>
          have tt : Y.T (tB (tCB (rIsi K) (tCons (tVar 4) (tCons (tC (.ty "tuple")) tNil)))) [some v, some (.ref o), some (.ref p), some nv, some xv] (jn F M') false := by
            rcases hx with ⟨z, rfl⟩ | ⟨z, rfl⟩
            · exact t_b (e_isi (r := rV) (tn := .type "str") (e_v rfl) (.ty _) (fun H v h H' e => by cases h; exact .base (.str _)) kST)
            · exact t_b (e_isi (r := rV) (tn := .type "int") (e_v rfl) (.ty _) (fun H v h H' e => by cases h; exact .base (.int _)) kIT)
          exact g_if tt gf (fun z => nomatch z) fun _ H4 g4 => ⟨F, M', g4, ef, done ++ [none], some xv, wv, by rw [i1]; simp, rfl, i3, i4, i5, by rw [List.filterMap_append]; simpa using i6⟩
      · rintro F M' σ' H' ⟨done, b, wv, i1, rfl, i3, i4, i5, i6⟩ gf ef
        rw [List.append_nil] at i1
        rw [← i1, parts_kids] at i6
        have hk : pre n = n :: pres (kids n).reverse := pre_eq n
        have hs : szs (kids n).reverse + 1 ≤ size n := by
          cases n <;> simp [kids, szs, size] <;> try omega
        have ha : ∀ (a b : List Tr), szs (a ++ b) = szs a + szs b := by
          intro a b
          induction a with
          | nil => simp [szs]
          | cons x a ih => rw [List.cons_append]; simp only [szs, ih]; omega
        refine ⟨szs ((kids n).reverse ++ wait), by rw [ha]; simp only [szs]; omega, acc ++ [n], (kids n).reverse ++ wait, _, wv, some nv, b, F, M', rfl, rfl, gf, i3, i4, i5, by simpa using i6, ?_, ?_⟩
        · rw [← hpre, pres_app]
          simp only [pres, hk]
          simp
        · rw [ha, List.length_append]
          simp only [szs] at hsz
          simp; omega
    · have hw0 : wait = [] := by
        cases wait with
        | nil => rfl
        | cons n w' => exact absurd (of_decide_eq_false hb) (by simp)
      subst hw0
      have g1 := g.ex e1
      simp only [pres, List.append_nil] at hpre
      subst hpre
      refine ⟨.ref o, rfl, o, av, rfl, sq_of (g1.m _ _ hm), fun d hd => ?_⟩
      have g2 := g1.newk (u := .lst av.reverse) hd
      refine q (.ref d) _ _ g2.done ⟨d, _, rfl, upd_same, ?_⟩
      have hr : ∀ {vs : List V} {l : List Tr}, Paired (rTr K1) vs l → Paired (rTr K1) vs.reverse l.reverse := by
        intro vs l h
        induction h with
        | nil => exact .nil
        | cons h t ih => rw [List.reverse_cons, List.reverse_cons]; exact p_app ih (.cons h .nil)
      have := hr ha
      rw [show (pre t).reverse = nds t by simp [pre]] at this
      exact p_up (Ex.new (g1.f.free hd)) this
end
end F1

set_option Elab.async false
set_option linter.all false
set_option autoImplicit false
set_option maxRecDepth 100000
set_option maxHeartbeats 4000000
/-! # Steps of a tree, its size, names, calls, figures; depths -/
namespace F1
open PySem L2 Y
open Pl hiding Sp Ss PA PB RA RW RP RS
section
variable {P : Program} {w : World} {K : PySem.W.Frag} {mg : Str → Option Value} {base : Heap}
section
variable {α : Type} {r : Rp α} {σ : L2.St} {Hk H M K0 H0 M0 : Hp} {ta tb tc te tl to : TE} {tt : TT} {D : Ends} {Q : VK}
theorem e_eqV {a b : Str} (ha : E rV ta σ Hk (.str a)) (hb : E rV tb σ Hk (.str b)) : E rBl (tOp rEq ta tb) σ Hk (decide (a = b)) :=
  fun H a' Q q => two ha hb H a' _ fun v u H2 F g hv hu => by
    cases hv; cases hu
    exact ⟨rfl, q _ H2 F g (by show V.bl _ = V.bl _; simp)⟩
theorem e_sV {z : Str} : E rV (tC (.str z)) σ Hk (.str z) := e_c rfl
theorem inV_S (a : Str) : ∀ l : List Str, inV (.str a) (l.map V.str) = decide (a ∈ l)
  | [] => by rfl
  | b :: l => by
    have ih := inV_S a l
    have e : inV (.str a) ((b :: l).map V.str) = (decide (b = a) || inV (.str a) (l.map V.str)) := rfl
    rw [e, ih, Bool.eq_iff_iff, Bool.or_eq_true, decide_eq_true_eq, decide_eq_true_eq, decide_eq_true_eq, List.mem_cons]
    constructor
    · rintro (z | z)
      · exact .inl z.symm
      · exact .inr z
    · rintro (z | z)
      · exact .inl z.symm
      · exact .inr z
theorem e_inV3 {a x y z : Str} (ha : E rV ta σ Hk (.str a)) : E rBl (tOp (rIn K false) ta (tTup (tCons (tC (.str x)) (tCons (tC (.str y)) (tCons (tC (.str z)) tNil))))) σ Hk (decide (a ∈ [x, y, z])) :=
  fun H e Q q => ha H e _ fun v H2 F g hv => ⟨by show 3 ≤ sizeLine; decide, fun p hp => ⟨p, [x, y, z].map V.str, rfl, .inr (st_of upd_same), by cases hv; rfl, rfl, q _ _ F ⟨g.h.trans (Ex.new hp), g.k, g.f.trans (Ex.new hp), g.n⟩ (by
    cases hv
    show V.bl (inV _ _) = _
    rw [inV_S])⟩⟩
theorem e_inV2 {a x y : Str} (ha : E rV ta σ Hk (.str a)) : E rBl (tOp (rIn K false) ta (tTup (tCons (tC (.str x)) (tCons (tC (.str y)) tNil)))) σ Hk (decide (a ∈ [x, y])) :=
  fun H e Q q => ha H e _ fun v H2 F g hv => ⟨by show 2 ≤ sizeLine; decide, fun p hp => ⟨p, [x, y].map V.str, rfl, .inr (st_of upd_same), by cases hv; rfl, rfl, q _ _ F ⟨g.h.trans (Ex.new hp), g.k, g.f.trans (Ex.new hp), g.n⟩ (by
    cases hv
    show V.bl (inV _ _) = _
    rw [inV_S])⟩⟩
/-- for word, thing in steps -/
theorem s_two {i j : Nat} {F : Hp} {v a b : V} {Q : L2.St → Hp → Prop} (h : rTv F v [a, b]) (e : Ex F H) (q : Q ((σ.set i (some a)).set j (some b)) H) : gTup K 2 (gCons (gName i) (gCons (gName j) gNil)) v σ H Q := by
  obtain ⟨p, rfl, hp⟩ := h
  exact tg_two (Kf := K) (st_of hp) H e Q q
theorem give_lstR {Hk H H' K1 M1 : Hp} {o : Addr} {vs : List V} {l : List α} [Mono r] (g : GM Hk H em K1 H' M1) (hm : M1 o = some (.lst vs)) (hp : Paired (r K1) vs l) (h0 : H o = none) : ∃ F, Grow Hk H F H' ∧ rLst r F (.ref o) l := by
  have g2 := g.give hm (by rw [sub_em]; exact h0)
  exact ⟨_, g2.done, o, _, rfl, upd_same, p_up (Ex.new (g.fm hm)) hp⟩
end
def tNum : Stp → Bool | .num _ => true | _ => false
def tName : Stp → Bool | .name _ => true | _ => false
def tCal : Stp → Bool | .call _ => true | _ => false
def tNeg : Stp → Bool | .neg => true | _ => false
def tPow : Stp → Bool | .pow _ => true | _ => false
def tLow : Stp → Bool | .op o => o.low | _ => false
def tHigh : Stp → Bool | .op o => !o.low | _ => false
theorem kw_num (s : Stp) : decide (kw s = "num") = tNum s := by cases s with | op o => cases o <;> decide +kernel | _ => rfl
theorem kw_name (s : Stp) : decide (kw s = "name") = tName s := by cases s with | op o => cases o <;> decide +kernel | _ => rfl
theorem kw_call (s : Stp) : decide (kw s = "call") = tCal s := by cases s with | op o => cases o <;> decide +kernel | _ => rfl
theorem kw_neg (s : Stp) : decide (kw s = "neg") = tNeg s := by cases s with | op o => cases o <;> decide +kernel | _ => rfl
theorem kw_pow (s : Stp) : decide (kw s = "pow") = tPow s := by cases s with | op o => cases o <;> decide +kernel | _ => rfl
theorem kw_nnc (s : Stp) : decide (kw s ∈ [("num" : Str), "name", "call"]) = (tNum s || tName s || tCal s) := by cases s with | op o => cases o <;> decide +kernel | _ => rfl
theorem kw_nn (s : Stp) : decide (kw s ∈ [("num" : Str), "name"]) = (tNum s || tName s) := by cases s with | op o => cases o <;> decide +kernel | _ => rfl
theorem kw_low (s : Stp) : decide (kw s ∈ [("add" : Str), "sub"]) = tLow s := by cases s with | op o => cases o <;> decide +kernel | _ => rfl
theorem kw_high (s : Stp) : decide (kw s ∈ [("mul" : Str), "div"]) = tHigh s := by cases s with | op o => cases o <;> decide +kernel | _ => rfl
theorem root_read {H : Hp} {v : V} {t : Tr} (h : rTr H v t) : ∃ vs, rTv H v (.str (kw (root t)) :: vs) ∧ ((∃ d, root t = .pow d ∧ ∃ u, vs = [u, .int (d : Int)]) ∨ (∃ s rest, thing (root t) = .str (S s) ∧ (root t = .num s ∨ root t = .name s ∨ root t = .call s) ∧ vs = .str (S s) :: rest) ∨ (thing (root t) = .non ∧ (root t = .neg ∨ ∃ o, root t = .op o))) := by
  cases t with
  | num s => exact ⟨_, h, .inr (.inl ⟨s, _, rfl, .inl rfl, rfl⟩)⟩
  | name s => exact ⟨_, h, .inr (.inl ⟨s, _, rfl, .inr (.inl rfl), rfl⟩)⟩
  | call s t => obtain ⟨u, h1, h2⟩ := h; exact ⟨_, h1, .inr (.inl ⟨s, _, rfl, .inr (.inr rfl), rfl⟩)⟩
  | neg t => obtain ⟨u, h1, h2⟩ := h; exact ⟨_, h1, .inr (.inr ⟨rfl, .inl rfl⟩)⟩
  | pow t d => obtain ⟨u, h1, h2⟩ := h; exact ⟨_, h1, .inl ⟨d, rfl, u, rfl⟩⟩
  | op o l r => obtain ⟨u, u2, h1, h2, h3⟩ := h; exact ⟨_, h1, .inr (.inr ⟨rfl, .inr ⟨o, rfl⟩⟩)⟩
theorem ok_postfix (T : Txt w K mg) : FnOk P w K mg base CX0 2 T.d_postfix.a T.d_postfix.fd ["tree"] (sp1 rTr (rLst rStp) (fun t => size t ≤ 10000) pst) := by
  refine T.d_postfix.F.ok sc_postfix (fun vs H Q Ew h => ?_) (fun cdv A outer s H vs Q Ew hr h => ?_)
  · obtain ⟨_, _, v, x, rfl, _⟩ := h; rfl
  · obtain ⟨Hk, ex, v, t, rfl, hv, hz, q⟩ := h
    refine ⟨_, (pss_cons (ps_set (i := 1) sc_postfix.nd rfl (Or.inl rfl) (pe_lst pa_nil))
      (pss_cons (ps_for PassesOwn.never rfl (pi_list (pe_call (ok_nodes_of T) (hr.mono (by decide)) (by rfl) T.g_nodes_of T.d_nodes_of.F.kp T.d_nodes_of.b .nil pass0 (pa_cons (pv 0) pa_nil))) (pg_name (i := 2) sc_postfix.nd rfl (Or.inl rfl) (hf := Or.inr rfl))
      (pss_cons (ps_set (i := 3) sc_postfix.nd rfl (Or.inl rfl) (pe_ix (ix_tupK (K := K) rfl) (pv 2) pe_int (fun _ _ => rfl)))
      (pss_one (ps_if (pt_cmpR op_eq (pv 3) pe_str (nomark _)) (pss_one (ps_expr (pe_bm PySem.F.plainAttrs_list PySem.F.slot_list_append PySem.F.type_list_append mt_append (pv 1) (pa_cons (pe_tup (pa_cons (pv 3) (pa_cons (pe_ix (ix_tupK (K := K) rfl) (pv 2) pe_int (fun _ _ => rfl)) pa_nil))) pa_nil)))) (pss_one (ps_if (pt_cmpR op_in_seq (pv 3) (pe_tup (pa_cons pe_str (pa_cons pe_str (pa_cons pe_str pa_nil)))) (by rfl)) (pss_one (ps_expr (pe_bm PySem.F.plainAttrs_list PySem.F.slot_list_append PySem.F.type_list_append mt_append (pv 1) (pa_cons (pe_tup (pa_cons (pv 3) (pa_cons (pe_ix (ix_tupK (K := K) rfl) (pv 2) pe_int (fun _ _ => rfl)) pa_nil))) pa_nil)))) (pss_one (ps_expr (pe_bm PySem.F.plainAttrs_list PySem.F.slot_list_append PySem.F.type_list_append mt_append (pv 1) (pa_cons (pe_tup (pa_cons (pv 3) (pa_cons pe_non pa_nil))) pa_nil))))))))))
      (pss_one (ps_ret (pv 1))))), ?_⟩
    refine g_nil (GM.start ex) fun o ho g0 => ?_
    dsimp only
    refine g_for (K := Hk) (r := rTr) (e_c1 (e_var hv rfl) hz) g0 (fun rest F M' σ' => ∃ (done : List Tr) (av : List V) (a b : Option V), nds t = done ++ rest ∧ σ' = [some v, some (.ref o), a, b] ∧ M' o = some (.lst av) ∧ Paired (rStp F) av (done.map root))
      (fun F e => ⟨[], [], none, none, rfl, rfl, upd_same, .nil⟩) (fun l F F' M' σ' e ⟨done, av, a, b, i1, i2, i3, i4⟩ => ⟨done, av, a, b, i1, i2, i3, p_up e i4⟩) ?_ ?_
    · rintro F0 e0 n rest nv F M' σ' H' ⟨done, av, a, b, i1, rfl, i3, i4⟩ g ef hn
      obtain ⟨vs, ht, cas⟩ := root_read hn
      have lim : av.length < 100000 := by
        have h1 := p_len i4
        have h2 := congrArg List.length i1
        have h3 := nodes_len t
        have h4 := (size_nodes t).1
        simp at h1 h2
        omega
      refine g_set (r := rV) (x := .str (kw (root n))) (e_ixT (k := 0) (e_var ht rfl) rfl) g fun kv H2 F2 g2 e2 hkv => ?_
      cases hkv
      dsimp only [List.set]
      have fin : ∀ (a : V) (H3 : Hp), a = thing (root n) → GM Hk H em F2 H3 M' → ∀ {te : TE}, (∀ F, Ex F2 F → E rV te [some v, some (.ref o), some nv, some (.str (kw (root n)))] F a) →
          tDrop (tBM K "list" rAppend (tVar 1) (tCons (tTup (tCons (tVar 3) (tCons te tNil))) tNil)) { nx := fun σ2 H2 => ∃ F2 M2, GM Hk H em F2 H2 M2 ∧ Ex F0 F2 ∧ ∃ (done : List Tr) (av : List V) (a b : Option V), nds t = done ++ rest ∧ σ2 = [some v, some (.ref o), a, b] ∧ M2 o = some (.lst av) ∧ Paired (rStp F2) av (done.map root), rt := Q, bk := fun _ _ => False, ct := fun σ2 H2 => ∃ F2 M2, GM Hk H em F2 H2 M2 ∧ Ex F0 F2 ∧ ∃ (done : List Tr) (av : List V) (a b : Option V), nds t = done ++ rest ∧ σ2 = [some v, some (.ref o), a, b] ∧ M2 o = some (.lst av) ∧ Paired (rStp F2) av (done.map root) } [some v, some (.ref o), some nv, some (.str (kw (root n)))] H3 := by
        intro a H3 ha g3 te he
        refine g_appE (us := av) (o_var rfl) i3 g3 lim (e_tup2 (e_v rfl) (he F2 (Ex.refl F2))) fun v2 H4 F4 g4 e4 hv2 => ?_
        refine ⟨F4, _, g4, (ef.trans e2).trans e4, done ++ [n], av ++ [v2], some nv, some (.str (kw (root n))), by rw [i1]; simp, rfl, upd_same, ?_⟩
        rw [List.map_append]
        subst ha
        exact p_app (p_up (e2.trans e4) i4) (.cons hv2 .nil)
      have k0 : ∀ {F}, E rV (tVar 3) [some v, some (.ref o), some nv, some (.str (kw (root n)))] F (.str (kw (root n))) := e_v rfl
      refine g_if ((t_test (e_eqV (b := "pow") k0 e_sV)).as (kw_pow _)) g2 (fun c H3 g3 => ?_) (fun c H3 g3 => ?_)
      · rcases cas with ⟨d, h1, u, rfl⟩ | ⟨s, r2, h1, h2, rfl⟩ | ⟨h1, h2⟩
        · exact fin (.int (d : Int)) H3 (by rw [h1]; rfl) g3 fun F e => e_ixT (k := 2) (e_var (up (r := rTv) (e2.trans e) ht) rfl) rfl
        · exfalso
          rcases h2 with h2 | h2 | h2 <;> (rw [h2] at c; cases c)
        · exfalso
          rcases h2 with h2 | ⟨o, h2⟩
          · rw [h2] at c; cases c
          · rw [h2] at c; cases c
      · refine g_if ((t_test (e_inV3 (x := "num") (y := "name") (z := "call") k0)).as (kw_nnc _)) g3 (fun c2 H4 g4 => ?_) (fun c2 H4 g4 => ?_)
        · rcases cas with ⟨d, h1, u, rfl⟩ | ⟨s, r2, h1, h2, rfl⟩ | ⟨h1, h2⟩
          · exfalso; rw [h1] at c; cases c
          · exact fin (.str (S s)) H4 h1.symm g4 fun F e => e_ixT (k := 1) (e_var (up (r := rTv) (e2.trans e) ht) rfl) rfl
          · exfalso
            rcases h2 with h2 | ⟨o, h2⟩
            · rw [h2] at c2; cases c2
            · rw [h2] at c2; cases c2
        · rcases cas with ⟨d, h1, u, rfl⟩ | ⟨s, r2, h1, h2, rfl⟩ | ⟨h1, h2⟩
          · exfalso; rw [h1] at c; cases c
          · exfalso
            rcases h2 with h2 | h2 | h2 <;> (rw [h2] at c2; cases c2)
          · exact fin .non H4 h1.symm g4 fun F e => e_c rfl
    · rintro F M' σ' H' ⟨done, av, a, b, i1, rfl, i3, i4⟩ g ef
      rw [List.append_nil] at i1
      subst i1
      rw [nds_root] at i4
      obtain ⟨F2, gF, hF⟩ := give_lstR g i3 i4 ho
      exact ⟨.ref o, rfl, q _ _ F2 gF hF⟩
theorem ok_tree_size (T : Txt w K mg) : FnOk P w K mg base CX0 3 T.d_tree_size.a T.d_tree_size.fd ["tree"] (sp1 rTr rInt (fun t => size t ≤ 10000) fun t => (size t : Int)) := by
  refine T.d_tree_size.F.ok sc_tree_size (fun vs H Q Ew h => ?_) (fun cdv A outer s H vs Q Ew hr h => ?_)
  · obtain ⟨_, _, v, x, rfl, _⟩ := h; rfl
  · obtain ⟨Hk, ex, v, t, rfl, hv, hz, q⟩ := h
    refine ⟨_, (pss_cons (ps_set (i := 1) sc_tree_size.nd rfl (Or.inl rfl) pe_int)
      (pss_cons (ps_for PassesOwn.never rfl (pi_list (pe_call (ok_postfix T) (hr.mono (by decide)) (by rfl) T.g_postfix T.d_postfix.F.kp T.d_postfix.b .nil pass0 (pa_cons (pv 0) pa_nil))) (pg_tup rfl (pgs_cons (pg_name (i := 2) sc_tree_size.nd rfl (Or.inl rfl) (hf := Or.inr rfl)) (pgs_cons (pg_name (i := 3) sc_tree_size.nd rfl (Or.inl rfl) (hf := Or.inr rfl)) pgs_nil)))
      (pss_one (ps_aug (i := 1) sc_tree_size.nd rfl (.inl rfl) (pe_ifExp (pt_cmpR op_eq (pv 2) pe_str (nomark _)) pe_int pe_int) ip_add)))
      (pss_one (ps_ret (pv 1))))), ?_⟩
    refine g_set (r := rInt) (x := 0) e_int (GM.start ex) fun v0 H1 F1 g1 e1 hv0 => ?_
    cases hv0
    dsimp only [List.set, L2.start]
    refine g_for (r := rStp) (e_c1 (e_var (up (r := rTr) e1 hv) rfl) hz) g1 (fun rest F M' σ' => ∃ (done : List Stp) (a b : Option V), pst t = done ++ rest ∧ σ' = [some v, some (.int (sss done : Int)), a, b])
      (fun F e => ⟨[], none, none, rfl, rfl⟩) (fun l F F' M' σ' e h => h) ?_ ?_
    · rintro F0 e0 s rest sv F M' σ' H' ⟨done, a, b, i1, rfl⟩ g ef hs
      refine s_two hs g.f ?_
      dsimp only [List.set]
      refine ⟨_, rfl, ?_⟩
      have e : E rInt (tIf (tTest (tOp rEq (tVar 2) (tC (.str "pow")))) (tC (.int 2)) (tC (.int 1))) [some v, some (.int (sss done : Int)), some (.str (kw s)), some (thing s)] F (ssz s : Int) := by
        refine e_if ((t_test (e_eqV (b := "pow") (e_v rfl) e_sV)).as (kw_pow s)) (fun c => ?_) (fun c => ?_)
        · have : ssz s = 2 := by
            cases s with
            | pow d => rfl
            | _ => cases c
          rw [this]; exact e_int
        · have : ssz s = 1 := by
            cases s with
            | pow d => cases c
            | _ => rfl
          rw [this]; exact e_int
      refine g_e e g fun z H2 F2 g2 e2 hz2 => ?_
      cases hz2
      refine ⟨_, _, rfl, rfl, F2, _, g2, ef.trans e2, done ++ [s], some (.str (kw s)), some (thing s), by rw [i1]; simp, ?_⟩
      have : (sss (done ++ [s]) : Int) = (sss done : Int) + (ssz s : Int) := by rw [sss_app]; simp [sss]
      rw [this]; rfl
    · rintro F M' σ' H' ⟨done, a, b, i1, rfl⟩ g ef
      rw [List.append_nil] at i1
      subst i1
      exact ⟨_, rfl, q _ _ _ g.done (by rw [sss_pst]; rfl)⟩
theorem ok_text_depth (T : Txt w K mg) : FnOk P w K mg base CX0 1 T.d_text_depth.a T.d_text_depth.fd ["text"] (sp1 rW rInt (fun _ => True) depth) := by
  refine T.d_text_depth.F.ok sc_text_depth (fun vs H Q Ew h => ?_) (fun cdv A outer s H vs Q Ew hr h => ?_)
  · obtain ⟨_, _, v, x, rfl, _⟩ := h; rfl
  · obtain ⟨Hk, ex, v, x, rfl, hv, hz, q⟩ := h
    cases hv
    refine ⟨_, (pss_cons (ps_set (i := 1) sc_text_depth.nd rfl (Or.inl rfl) pe_int)
      (pss_cons (ps_set (i := 2) sc_text_depth.nd rfl (Or.inl rfl) pe_int)
      (pss_cons (ps_for PassesOwn.never rfl (pi_str (pv 0)) (pg_name (i := 3) sc_text_depth.nd rfl (Or.inl rfl) (hf := Or.inr rfl))
      (pss_one (ps_if (pt_cmpR op_eq (pv 3) pe_str (nomark _)) (pss_cons (ps_aug (i := 1) sc_text_depth.nd rfl (.inl rfl) pe_int ip_add)
      (pss_one (ps_if (pt_cmpR op_gt (pv 1) (pv 2) (nomark _)) (pss_one (ps_set (i := 2) sc_text_depth.nd rfl (Or.inl rfl) (pv 1))) pss_nil))) (pss_one (ps_if (pt_cmpR op_eq (pv 3) pe_str (nomark _)) (pss_one (ps_aug (i := 1) sc_text_depth.nd rfl (.inl rfl) pe_int ip_sub)) pss_nil)))))
      (pss_one (ps_ret (pv 2)))))), ?_⟩
    refine g_set (r := rInt) (x := 0) e_int (GM.start ex) fun v0 H1 F1 g1 e1 hv0 => ?_
    cases hv0
    dsimp only [List.set, L2.start]
    refine g_set (r := rInt) (x := 0) e_int g1 fun v0 H2 F2 g2 e2 hv0 => ?_
    cases hv0
    dsimp only [List.set]
    refine g_forI (it_str (x := x) (e_var rfl rfl)) g2 (fun i F M' σ' => ∃ (d m : Int) (a : Option V), σ' = [some (.str (S x)), some (.int d), some (.int m), a] ∧ depth x = depthGo d m (x.drop i))
      (fun F e => ⟨0, 0, none, rfl, rfl⟩) ?_ (fun i F F' M' σ' e h => h) ?_
    · rintro F0 e0 i v F M' σ' H' hi ⟨d, m, a, rfl, hd⟩ g ef _ ⟨c, hc, rfl⟩
      show tIfS _ _ _ _ _ _
      dsimp only [List.set]
      obtain ⟨c', h1, h2⟩ := drop_at hi
      rw [hc] at h1; cases h1
      rw [h2] at hd
      refine g_if (b := decide (c = 40)) ((t_test (e_eqW (a := [c]) (b := [40]) (e_var rfl rfl) (e_w rfl))).as (by simp)) g (fun z H3 g3 => ?_) (fun z H3 g3 => ?_)
      · have z := of_decide_eq_true z
        subst z
        refine ⟨_, rfl, e_int _ g3.f _ fun v4 H7 F7 gr hv4 => ?_⟩
        cases hv4
        refine ⟨d, 1, rfl, rfl, ?_⟩
        dsimp only [List.set]
        have g4 := g3.grow gr
        refine g_if (b := decide (d + 1 > m)) (t_test (e_b0 (p := fun i j => decide (i > j)) (e_var (x := d + 1) rfl rfl) (e_var (x := m) rfl rfl))) g4 (fun y H5 g5 => ?_) (fun y H5 g5 => ?_)
        · refine g_set (r := rInt) (x := d + 1) (e_var rfl rfl) g5 fun v5 H6 F6 g6 e6 hv5 => ?_
          cases hv5
          refine ⟨F6, _, g6, (ef.trans gr.k).trans e6, d + 1, d + 1, _, rfl, ?_⟩
          rw [hd, depthGo, if_pos rfl, if_pos (of_decide_eq_true y)]
        · refine ⟨F7, _, g5, ef.trans gr.k, d + 1, m, _, rfl, ?_⟩
          rw [hd, depthGo, if_pos rfl, if_neg (of_decide_eq_false y)]
      · have z := of_decide_eq_false z
        refine g_if (b := decide (c = 41)) ((t_test (e_eqW (a := [c]) (b := [41]) (e_var rfl rfl) (e_w rfl))).as (by simp)) g3 (fun y H4 g4 => ?_) (fun y H4 g4 => ?_)
        · have y := of_decide_eq_true y
          subst y
          refine ⟨_, rfl, e_int _ g4.f _ fun v4 H7 F7 gr hv4 => ?_⟩
          cases hv4
          refine ⟨d, 1, rfl, rfl, F7, _, g4.grow gr, ef.trans gr.k, d - 1, m, _, rfl, ?_⟩
          rw [hd]; rfl
        · have y := of_decide_eq_false y
          refine ⟨F, _, g4, ef, d, m, _, rfl, ?_⟩
          rw [hd, depthGo, if_neg z, if_neg y]
    · rintro F M' σ' H' ⟨d, m, a, rfl, hd⟩ g ef
      rw [List.drop_length] at hd
      exact ⟨_, rfl, q _ _ _ g.done (by rw [hd]; rfl)⟩
theorem ok__law_depth (T : Txt w K mg) : FnOk P w K mg base CX0 1 T.d__law_depth.a T.d__law_depth.fd ["words"] (sp1 rW rInt (fun _ => True) depth) := by
  refine T.d__law_depth.F.ok sc__law_depth (fun vs H Q Ew h => ?_) (fun cdv A outer s H vs Q Ew hr h => ?_)
  · obtain ⟨_, _, v, x, rfl, _⟩ := h; rfl
  · obtain ⟨Hk, ex, v, x, rfl, hv, hz, q⟩ := h
    cases hv
    refine ⟨_, (pss_cons (ps_set (i := 1) sc__law_depth.nd rfl (Or.inl rfl) pe_int)
      (pss_cons (ps_set (i := 2) sc__law_depth.nd rfl (Or.inl rfl) pe_int)
      (pss_cons (ps_for PassesOwn.never rfl (pi_str (pv 0)) (pg_name (i := 3) sc__law_depth.nd rfl (Or.inl rfl) (hf := Or.inr rfl))
      (pss_cons (ps_set (i := 1) sc__law_depth.nd rfl (Or.inl rfl) (pe_op op_sub (pe_op op_add (pv 1) (pe_callTy c_toInt (by rfl) T.n_int (by decide +kernel) (pa_cons (pe_cmpR op_eq (pv 3) pe_str (nomark _)) pa_nil))) (pe_callTy c_toInt (by rfl) T.n_int (by decide +kernel) (pa_cons (pe_cmpR op_eq (pv 3) pe_str (nomark _)) pa_nil))))
      (pss_one (ps_set (i := 2) sc__law_depth.nd rfl (Or.inl rfl) (pe_ifExp (pt_cmpR op_gt (pv 1) (pv 2) (nomark _)) (pv 1) (pv 2))))))
      (pss_one (ps_ret (pv 2)))))), ?_⟩
    refine g_set (r := rInt) (x := 0) e_int (GM.start ex) fun v0 H1 F1 g1 e1 hv0 => ?_
    cases hv0
    dsimp only [List.set, L2.start]
    refine g_set (r := rInt) (x := 0) e_int g1 fun v0 H2 F2 g2 e2 hv0 => ?_
    cases hv0
    dsimp only [List.set]
    refine g_forI (it_str (x := x) (e_var rfl rfl)) g2 (fun i F M' σ' => ∃ (d m : Int) (a : Option V), σ' = [some (.str (S x)), some (.int d), some (.int m), a] ∧ d ≤ m ∧ depth x = depthGo d m (x.drop i))
      (fun F e => ⟨0, 0, none, rfl, Int.le_refl _, rfl⟩) ?_ (fun i F F' M' σ' e h => h) ?_
    · rintro F0 e0 i v F M' σ' H' hi ⟨d, m, a, rfl, hdm, hd⟩ g ef _ ⟨c, hc, rfl⟩
      show tAsg _ _ _ _ _
      dsimp only [List.set]
      obtain ⟨c', h1, h2⟩ := drop_at hi
      rw [hc] at h1; cases h1
      rw [h2] at hd
      have eb : ∀ (k : Nat) {F : Hp} {a b : Option V}, E rInt (tCB rToInt (tCons (tOp rEq (tVar 3) (tC (.str (S [k])))) tNil)) [a, some (.int d), b, some (.str (S [c]))] F (if c = k then 1 else 0) := fun k F a b H e Q q => (e_eqW (a := [c]) (b := [k]) (e_var rfl rfl) (e_c rfl)) H e _ fun v H2 F g hv => by
        cases hv
        refine .inr ⟨_, rfl, q _ H2 F g ?_⟩
        show V.int _ = V.int _
        simp
      refine g_set (r := rInt) (x := d + (if c = 40 then 1 else 0) - (if c = 41 then 1 else 0)) (e_i0 (f := fun i j => i - j) (e_i0 (f := fun i j => i + j) (e_var (x := d) rfl rfl) (eb 40)) (eb 41)) g fun v3 H3 F3 g3 e3 hv3 => ?_
      cases hv3
      dsimp only [List.set]
      refine g_set (r := rInt) (x := if d + (if c = 40 then 1 else 0) - (if c = 41 then 1 else 0) > m then d + (if c = 40 then 1 else 0) - (if c = 41 then 1 else 0) else m) (e_if (b := decide (d + (if c = 40 then 1 else 0) - (if c = 41 then 1 else 0) > m)) (t_test (e_b0 (p := fun i j => decide (i > j)) (e_var (x := d + (if c = 40 then 1 else 0) - (if c = 41 then 1 else 0)) rfl rfl) (e_var (x := m) rfl rfl))) (fun z => ?_) (fun z => ?_)) g3 fun v4 H4 F4 g4 e4 hv4 => ?_
      · rw [if_pos (of_decide_eq_true z)]; exact e_var rfl rfl
      · rw [if_neg (of_decide_eq_false z)]; exact e_var rfl rfl
      · cases hv4
        refine ⟨F4, _, g4, (ef.trans e3).trans e4, _, _, _, rfl, by split <;> omega, ?_⟩
        rw [hd, depthGo]
        by_cases h1 : c = 40
        · subst h1; simp
        · by_cases h2 : c = 41
          · subst h2
            simp
            rw [if_neg (by omega)]
          · simp [h1, h2]
            rw [if_neg (by omega)]
    · rintro F M' σ' H' ⟨d, m, a, rfl, _, hd⟩ g ef
      rw [List.drop_length] at hd
      exact ⟨_, rfl, q _ _ _ g.done (by rw [hd]; rfl)⟩
end
end F1

set_option Elab.async false
set_option linter.all false
set_option autoImplicit false
set_option maxRecDepth 100000
set_option maxHeartbeats 4000000
/-! # Writers -/
namespace F1
open PySem L2 Y
open Pl hiding Sp Ss PA PB RA RW RP RS
/-- text and rank -/
def rPk : Rp (W × Int) := fun H v p => rTv H v [.str (S p.1), .int p.2]
instance : Mono rPk := ⟨fun e h => up (r := rTv) e h⟩
/-- text and rank of a tree: the program's (b = 0), the law's (b = 1) -/
def rPw (b : Int) : Rp Tr := fun H v t => rPk H v ((wr t).1, (wr t).2 + b)
instance (b : Int) : Mono (rPw b) := ⟨fun e h => up (r := rPk) e h⟩
def brkI (p : W × Int) (k : Int) : W := if p.2 < k then [40] ++ p.1 ++ [41] else p.1
theorem brkI_eq (t : Tr) (b : Int) (k : Nat) : brkI ((wr t).1, (wr t).2 + b) (k + b) = brk (wr t) k := by
  unfold brkI brk
  by_cases h : (wr t).2 < k
  · rw [if_pos h, if_pos (by dsimp only; omega)]
  · rw [if_neg h, if_neg (by dsimp only; omega)]
section
variable {P : Program} {w : World} {K : PySem.W.Frag} {mg : Str → Option Value} {base : Heap}
section
variable {α : Type} {r : Rp α} {σ : L2.St} {Hk H M K0 H0 M0 : Hp} {ta tb tc te tl to : TE} {tt : TT} {D : Ends} {Q : VK} {x y z : W}
theorem js_str {ts : List TE} {acc : W} {Q : Str → Hp → Prop} (hl : acc.length + x.length ≤ 100000) (k : tJs ts (S (acc ++ x)) σ H Q) : tJs (tC (.str (S x)) :: ts) (S acc) σ H Q :=
  ⟨S x, rfl, sz_of (by rw [S_app, S_len]; simpa using hl), by rw [S_app]; exact k⟩
/-- a piece told: te at H goes on to k -/
theorem js_fmt {ts : List TE} {acc : W} {Q : Str → Hp → Prop} (h : te σ H fun v H1 => ∃ x : W, v = .str (S x) ∧ acc.length + x.length ≤ 100000 ∧ tJs ts (S (acc ++ x)) σ H1 Q) (hm : ∀ Q1 Q2 : VK, (∀ v H, Q1 v H → Q2 v H) → ∀ H, te σ H Q1 → te σ H Q2) : tJs (tFmt te :: ts) (S acc) σ H Q :=
  hm _ _ (fun v H1 ⟨x, hv, hl, k⟩ => by
    subst hv
    exact .inl ⟨S x, rfl, sz_of (by rw [S_len]; omega), S x, rfl, sz_of (by rw [S_app, S_len]; simpa using hl), by rw [S_app]; exact k⟩) H h
theorem e_js3 (ha : E rW ta σ Hk x) (hb : E rW tb σ Hk y) (hc : E rW tc σ Hk z) (hl : x.length + y.length + z.length ≤ 100000) : E rW (fun σ H Q => tJs [ta, tFmt tb, tc] Str.empty σ H fun out H1 => Q (.str out) H1) σ Hk (x ++ y ++ z) := fun H e Q q =>
  ha H e _ fun v H1 F1 g1 hv => by
    cases hv
    refine ⟨S x, rfl, sz_of (by rw [show Str.empty = S [] from rfl, S_app, S_len]; simp; omega), ?_⟩
    refine (hb.mono g1.k) H1 g1.f _ fun v H2 F2 g2 hv => ?_
    cases hv
    refine .inl ⟨S y, rfl, sz_of (by rw [S_len]; omega), S y, rfl, sz_of (by rw [show Str.empty = S [] from rfl, S_app, S_app, S_len]; simp; omega), ?_⟩
    refine (hc.mono (g1.k.trans g2.k)) H2 g2.f _ fun v H3 F3 g3 hv => ?_
    cases hv
    refine ⟨S z, rfl, sz_of (by rw [show Str.empty = S [] from rfl, S_app, S_app, S_app, S_len]; simp; omega), ?_⟩
    exact q _ H3 F3 ((g1.trans g2).trans g3) (by show V.str _ = V.str _; rw [show Str.empty = S [] from rfl, S_app, S_app, S_app]; rfl)
theorem e_pk0 {p : W × Int} (ha : E rPk ta σ Hk p) : E rW (tOp (rIxT K) ta (tC (.int 0))) σ Hk p.1 := fun H e Q q => (e_ixT (K := K) (k := 0) (y := .str (S p.1)) (show E rTv ta σ Hk [.str (S p.1), .int p.2] from ha) rfl) H e Q fun v H2 F g hv => q v H2 F g hv
theorem e_pk1 {p : W × Int} (ha : E rPk ta σ Hk p) : E rInt (tOp (rIxT K) ta (tC (.int 1))) σ Hk p.2 := fun H e Q q => (e_ixT (K := K) (k := 1) (y := .int p.2) (show E rTv ta σ Hk [.str (S p.1), .int p.2] from ha) rfl) H e Q fun v H2 F g hv => q v H2 F g hv
theorem e_toV {x : W} (h : E rW ta σ Hk x) : E rV ta σ Hk (.str (S x)) := E.toV h fun F u hu => hu
theorem e_toVi {i : Int} (h : E rInt ta σ Hk i) : E rV ta σ Hk (.int i) := E.toV h fun F u hu => hu
theorem e_pk {p : W × Int} (ha : E rW ta σ Hk p.1) (hb : E rInt tb σ Hk p.2) : E rPk (tTup (tCons ta (tCons tb tNil))) σ Hk p := e_tup2 (e_toV ha) (e_toVi hb)
end
theorem ok_bracketed (T : Txt w K mg) : FnOk P w K mg base CX0 1 T.d_bracketed.a T.d_bracketed.fd ["part", "least"] (sp2 rPk rInt rW (fun p _ => p.1.length ≤ 90000) brkI) := by
  refine T.d_bracketed.F.ok sc_bracketed (fun vs H Q Ew h => ?_) (fun cdv A outer s H vs Q Ew hr h => ?_)
  · obtain ⟨_, _, v, x, v2, y, rfl, _⟩ := h; rfl
  · obtain ⟨Hk, ex, v, p, v2, k, rfl, hv, hv2, hl, q⟩ := h
    cases hv2
    refine ⟨_, (pss_cons (ps_if (pt_cmpR op_lt (pe_ix (ix_tupK (K := K) rfl) (pv 0) pe_int (fun _ _ => rfl)) (pv 1) (nomark _)) (pss_one (ps_ret (pe_joined (PJ.cons pe_str (PJ.cons (pe_fmt (pe_ix (ix_tupK (K := K) rfl) (pv 0) pe_int (fun _ _ => rfl))) (PJ.cons pe_str PJ.nil)))))) pss_nil)
      (pss_one (ps_ret (pe_ix (ix_tupK (K := K) rfl) (pv 0) pe_int (fun _ _ => rfl))))), ?_⟩
    have v0 : ∀ {F : Hp}, Ex Hk F → E rPk (tVar 0) (L2.start ["part", "least"] [v, .int k]) F p := fun e => e_var (up e hv) rfl
    refine s_if (K := Hk) (t_test (e_b0 (p := fun i j => decide (i < j)) (e_pk1 (v0 (Ex.refl _))) (e_var (x := k) rfl rfl))) ex (fun c H1 e1 => ?_) (fun c H1 e1 => ?_)
    · refine s_ret ((e_js3 (e_w (a := [40]) rfl) (e_pk0 (v0 (Ex.refl _))) (e_w (a := [41]) rfl) (by simp; omega)).as ?_) (ex.trans e1) (Res.at ex e1 q)
      unfold brkI; rw [if_pos (of_decide_eq_true c)]
    · refine s_ret ((e_pk0 (v0 (Ex.refl _))).as ?_) (ex.trans e1) (Res.at ex e1 q)
      unfold brkI; rw [if_neg (of_decide_eq_false c)]
theorem ok__law_held (T : Txt w K mg) : FnOk P w K mg base CX0 1 T.d__law_held.a T.d__law_held.fd ["one", "least"] (sp2 rPk rInt rW (fun p _ => p.1.length ≤ 90000) brkI) := by
  refine T.d__law_held.F.ok sc__law_held (fun vs H Q Ew h => ?_) (fun cdv A outer s H vs Q Ew hr h => ?_)
  · obtain ⟨_, _, v, x, v2, y, rfl, _⟩ := h; rfl
  · obtain ⟨Hk, ex, v, p, v2, k, rfl, hv, hv2, hl, q⟩ := h
    cases hv2
    refine ⟨_, (pss_one (ps_ret (pe_ifExp (pt_cmpR op_lt (pe_ix (ix_tupK (K := K) rfl) (pv 0) pe_int (fun _ _ => rfl)) (pv 1) (nomark _)) (pe_op op_add_str (pe_op op_add_str pe_str (pe_ix (ix_tupK (K := K) rfl) (pv 0) pe_int (fun _ _ => rfl))) pe_str) (pe_ix (ix_tupK (K := K) rfl) (pv 0) pe_int (fun _ _ => rfl))))), ?_⟩
    have v0 : E rPk (tVar 0) (L2.start ["one", "least"] [v, .int k]) Hk p := e_var hv rfl
    refine s_ret (e_if (x := brkI p k) (t_test (e_b0 (p := fun i j => decide (i < j)) (e_pk1 v0) (e_var (x := k) rfl rfl))) (fun c => ?_) (fun c => ?_)) ex q
    · refine (e_catW (e_catW (e_w (a := [40]) rfl) (e_pk0 v0) (by simp; omega)) (e_w (a := [41]) rfl) (by simp; omega)).as ?_
      unfold brkI; rw [if_pos (of_decide_eq_true c)]
    · refine (e_pk0 v0).as ?_
      unfold brkI; rw [if_neg (of_decide_eq_false c)]
/-- what stands on the stack of a walk over the steps -/
def OnS (r : Rp Tr) (M F : Hp) (o : Addr) (S : List Tr) : Prop := ∃ vs, M o = some (.lst vs) ∧ Paired (r F) vs S.reverse
theorem OnS.up {r : Rp Tr} [Mono r] {M F F' : Hp} {o : Addr} {L : List Tr} (h : OnS r M F o L) (e : Ex F F') : OnS r M F' o L := by
  obtain ⟨vs, h1, h2⟩ := h
  exact ⟨vs, h1, p_up e h2⟩
section
variable {r : Rp Tr} [Mono r] {σ : L2.St} {K1 H M K0 H0 M0 : Hp} {te to : TE} {D : Ends} {Q : VK} {t u : Tr} {L : List Tr} {rest : List Stp} {o : Addr}
/-- a new thing on the stack, reckoned from what is known -/
theorem g_stk (hi : ∀ Q : VK, Q (.ref o) H → to σ H Q) (hs : OnS r M K1 o L) (hl : L.length ≤ 10000) (g : GM K0 H0 M0 K1 H M) (he : E r te σ K1 u)
    (k : ∀ H2 F M2, GM K0 H0 M0 F H2 M2 → Ex K1 F → OnS r M2 F o (u :: L) → (∀ a, a ≠ o → M2 a = M a) → D.nx σ H2) : tDrop (tBM K "list" rAppend to (tCons te tNil)) D σ H := by
  obtain ⟨vs, h1, h2⟩ := hs
  refine g_appE hi h1 g (by rw [p_len h2, List.length_reverse]; omega) he fun v H2 F g2 e hv => k _ F _ g2 e ⟨_, upd_same, p_push (p_up e h2) hv⟩ fun a ha => upd_ne ha
/-- a pop -/
theorem g_pops (hi : ∀ Q : VK, Q (.ref o) H → to σ H Q) (hs : OnS r M K1 o (u :: L)) (g : GM K0 H0 M0 K1 H M)
    (k : ∀ v H2 M2, r K1 v u → GM K0 H0 M0 K1 H2 M2 → OnS r M2 K1 o L → (∀ a, a ≠ o → M2 a = M a) → Q v H2) : tBM0 K "list" rPop to σ H Q := by
  obtain ⟨vs, h1, h2⟩ := hs
  exact g_popS (r := r) hi h1 h2 g fun v ws hv hw g2 => k v _ _ hv g2 ⟨ws, upd_same, hw⟩ fun a ha => upd_ne ha
/-- the append of what is reckoned step by step -/
theorem g_stkA (hi : ∀ Q : VK, Q (.ref o) H → to σ H Q) (hs : ∃ vs, M o = some (.lst vs)) (g : GM K0 H0 M0 K1 H M) (he : te σ H fun v H2 => rAppend (.ref o) [v] H2 fun _ H3 => D.nx σ H3) : tDrop (tBM K "list" rAppend to (tCons te tNil)) D σ H := by
  obtain ⟨vs, h1⟩ := hs
  exact g_app hi h1 g he
theorem g_pushS {v : V} {Q : VK} (hs : OnS r M K1 o L) (hl : L.length ≤ 10000) (g : GM K0 H0 M0 K1 H M) (hv : r K1 v u)
    (k : ∀ H2 M2, GM K0 H0 M0 K1 H2 M2 → OnS r M2 K1 o (u :: L) → (∀ a, a ≠ o → M2 a = M a) → Q .non H2) : rAppend (.ref o) [v] H Q := by
  obtain ⟨vs, h1, h2⟩ := hs
  exact g_push h1 g (by rw [p_len h2, List.length_reverse]; omega) fun g2 => k _ _ g2 ⟨_, upd_same, p_push h2 hv⟩ fun a ha => upd_ne ha
end
end
end F1

set_option Elab.async false
set_option linter.all false
set_option autoImplicit false
set_option maxRecDepth 100000
set_option maxHeartbeats 4000000
/-! # The text of a tree -/
namespace F1
open PySem L2 Y
open Pl hiding Sp Ss PA PB RA RW RP RS
section
variable {P : Program} {w : World} {K : PySem.W.Frag} {mg : Str → Option Value} {base : Heap}
section
variable {α β γ : Type} {r : Rp α} {r2 : Rp γ} {s : Rp β} {σ : L2.St} {K1 H M K0 H0 M0 : Hp} {Q : VK} {Ew : XK} {x : α} {y : γ}
/-- the promise of a def, at what is known -/
theorem g_sp1 {pre : α → Prop} {f : α → β} {v : V} (g : GM K0 H0 M0 K1 H M) (hv : r K1 v x) (hp : pre x) (k : ∀ u H2 F, GM K0 H0 M0 F H2 M → Ex K1 F → s F u (f x) → Q u H2) : sp1 r s pre f ([v] ++ []) H Q Ew :=
  ⟨K1, g.f, v, x, rfl, hv, hp, fun u H2 F gr hu => k u H2 F (g.grow gr) gr.k hu⟩
theorem g_sp2 {pre : α → γ → Prop} {f : α → γ → β} {v v2 : V} (g : GM K0 H0 M0 K1 H M) (hv : r K1 v x) (hv2 : r2 K1 v2 y) (hp : pre x y) (k : ∀ u H2 F, GM K0 H0 M0 F H2 M → Ex K1 F → s F u (f x y) → Q u H2) : sp2 r r2 s pre f ([v, v2] ++ []) H Q Ew :=
  ⟨K1, g.f, v, x, v2, y, rfl, hv, hv2, hp, fun u H2 F gr hu => k u H2 F (g.grow gr) gr.k hu⟩
/-- a new pair of text and rank goes onto the stack -/
theorem g_pair {b : Int} {o : Addr} {L : List Tr} {u : Tr} {X : W} {k : Int} (hs : OnS (rPw b) M K1 o L) (hl : L.length ≤ 10000) (g : GM K0 H0 M0 K1 H M) (h1 : X = (wr u).1) (h2 : k = (wr u).2 + b)
    (kk : ∀ H3 F M3, GM K0 H0 M0 F H3 M3 → Ex K1 F → OnS (rPw b) M3 F o (u :: L) → (∀ a, a ≠ o → M3 a = M a) → Q .non H3) :
    [V.str (S X), V.int k].length ≤ sizeLine ∧ ∀ p, H p = none → rAppend (.ref o) [.ref p] (upd H p (.tup [.str (S X), .int k])) Q :=
  ⟨two_le, fun p hp => by
    have g2 := g.newk (u := .tup [.str (S X), .int k]) hp
    have e2 : Ex K1 (upd K1 p (.tup [.str (S X), .int k])) := Ex.new (g.f.free hp)
    refine g_pushS (r := rPw b) (u := u) (hs.up e2) hl g2 ?_ fun H3 M3 g3 hs3 hm => kk H3 _ M3 g3 e2 hs3 hm
    subst h1; subst h2
    exact ⟨p, rfl, upd_same⟩⟩
end
theorem dig_S {d : Nat} (h : d ≤ 9) : Str.ofString (toString (d : Int)) = S [48 + d] := by
  have : d = 0 ∨ d = 1 ∨ d = 2 ∨ d = 3 ∨ d = 4 ∨ d = 5 ∨ d = 6 ∨ d = 7 ∨ d = 8 ∨ d = 9 := by omega
  rcases this with rfl | rfl | rfl | rfl | rfl | rfl | rfl | rfl | rfl | rfl <;> decide +kernel
theorem log_dig {d : Nat} (h : d ≤ 9) : (d : Int).natAbs.log2 < 1920 := by
  have : d = 0 ∨ d = 1 ∨ d = 2 ∨ d = 3 ∨ d = 4 ∨ d = 5 ∨ d = 6 ∨ d = 7 ∨ d = 8 ∨ d = 9 := by omega
  rcases this with rfl | rfl | rfl | rfl | rfl | rfl | rfl | rfl | rfl | rfl <;> decide
theorem mark_get (T : Txt w K mg) (o : Op) : KDct K w T.aM (opW o) (.str (S o.mark)) := by
  have h := T.hM
  have : ∀ q : Str × V, q ∈ [(("add" : Str), V.str " + "), ("sub", .str " - "), ("mul", .str "*"), ("div", .str "/")] → KDct K w T.aM q.1 q.2 := fun q hq => by
    obtain ⟨u, h1, h2⟩ := h q hq
    exact ⟨T.eM, T.mM, u, T.k_MARKS.at_, T.k_MARKS.lit, h1, h2⟩
  cases o with
  | add => exact this ("add", .str " + ") (by simp)
  | sub => exact this ("sub", .str " - ") (by simp)
  | mul => exact this ("mul", .str "*") (by simp)
  | div => exact this ("div", .str "/") (by simp)
def preT (t : Tr) : Prop := okd t ∧ size t ≤ 1000
theorem lenW {t u : Tr} {r : List Stp} {L : List Tr} (hk : Stk t r L) (hz : size t ≤ 1000) (hu : u ∈ L) : (wr u).1.length ≤ 50000 := by
  have h1 := wr_len (hk.ok u hu)
  have h2 := hk.mem hu
  omega
theorem ok_write_tree (T : Txt w K mg) : FnOk P w K mg base CX0 3 T.d_write_tree.a T.d_write_tree.fd ["tree"] (sp1 rTr rW preT txt) := by
  refine T.d_write_tree.F.ok sc_write_tree (fun vs H Q Ew h => ?_) (fun cdv A outer s H vs Q Ew hr h => ?_)
  · obtain ⟨_, _, v, x, rfl, _⟩ := h; rfl
  · obtain ⟨Hk, ex, v, t, rfl, hv, ⟨hd, hz⟩, q⟩ := h
    refine ⟨_, (pss_cons (ps_set (i := 1) sc_write_tree.nd rfl (Or.inl rfl) (pe_lst pa_nil))
      (pss_cons (ps_for PassesOwn.never rfl (pi_list (pe_call (ok_postfix T) (hr.mono (by decide)) (by rfl) T.g_postfix T.d_postfix.F.kp T.d_postfix.b .nil pass0 (pa_cons (pv 0) pa_nil))) (pg_tup rfl (pgs_cons (pg_name (i := 2) sc_write_tree.nd rfl (Or.inl rfl) (hf := Or.inr rfl)) (pgs_cons (pg_name (i := 3) sc_write_tree.nd rfl (Or.inl rfl) (hf := Or.inr rfl)) pgs_nil)))
      (pss_one (ps_if (pt_cmpR op_in_seq (pv 2) (pe_tup (pa_cons pe_str (pa_cons pe_str pa_nil))) (by rfl)) (pss_one (ps_expr (pe_bm PySem.F.plainAttrs_list PySem.F.slot_list_append PySem.F.type_list_append mt_append (pv 1) (pa_cons (pe_tup (pa_cons (pv 3) (pa_cons (C8.pe_gc (v := .int 3) rfl T.g_ATOM) pa_nil))) pa_nil)))) (pss_one (ps_if (pt_cmpR op_eq (pv 2) pe_str (nomark _)) (pss_one (ps_expr (pe_bm PySem.F.plainAttrs_list PySem.F.slot_list_append PySem.F.type_list_append mt_append (pv 1) (pa_cons (pe_tup (pa_cons (pe_joined (PJ.cons (pe_fmt (pv 3)) (PJ.cons pe_str (PJ.cons (pe_fmt (pe_ix (ix_tupK (K := K) rfl) (pe_bm0 PySem.F.plainAttrs_list PySem.F.slot_list_pop PySem.F.type_list_pop mt_pop (pv 1)) pe_int (fun _ _ => rfl))) (PJ.cons pe_str PJ.nil))))) (pa_cons (C8.pe_gc (v := .int 3) rfl T.g_ATOM) pa_nil))) pa_nil)))) (pss_one (ps_if (pt_cmpR op_eq (pv 2) pe_str (nomark _)) (pss_one (ps_expr (pe_bm PySem.F.plainAttrs_list PySem.F.slot_list_append PySem.F.type_list_append mt_append (pv 1) (pa_cons (pe_tup (pa_cons (pe_joined (PJ.cons (pe_fmt (pe_call (ok_bracketed T) (hr.mono (by decide)) (by rfl) T.g_bracketed T.d_bracketed.F.kp T.d_bracketed.b .nil pass0 (pa_cons (pe_bm0 PySem.F.plainAttrs_list PySem.F.slot_list_pop PySem.F.type_list_pop mt_pop (pv 1)) (pa_cons (C8.pe_gc (v := .int 3) rfl T.g_ATOM) pa_nil)))) (PJ.cons pe_str (PJ.cons (pe_fmt (pv 3)) PJ.nil)))) (pa_cons (C8.pe_gc (v := .int 2) rfl T.g_POWER) pa_nil))) pa_nil)))) (pss_one (ps_if (pt_cmpR op_eq (pv 2) pe_str (nomark _)) (pss_one (ps_expr (pe_bm PySem.F.plainAttrs_list PySem.F.slot_list_append PySem.F.type_list_append mt_append (pv 1) (pa_cons (pe_tup (pa_cons (pe_joined (PJ.cons pe_str (PJ.cons (pe_fmt (pe_call (ok_bracketed T) (hr.mono (by decide)) (by rfl) T.g_bracketed T.d_bracketed.F.kp T.d_bracketed.b .nil pass0 (pa_cons (pe_bm0 PySem.F.plainAttrs_list PySem.F.slot_list_pop PySem.F.type_list_pop mt_pop (pv 1)) (pa_cons (C8.pe_gc (v := .int 1) rfl T.g_PRODUCT) pa_nil)))) PJ.nil))) (pa_cons (C8.pe_gc (v := .int 0) rfl T.g_SUM) pa_nil))) pa_nil)))) (pss_cons (ps_set (i := 4) sc_write_tree.nd rfl (Or.inl rfl) (pe_bm0 PySem.F.plainAttrs_list PySem.F.slot_list_pop PySem.F.type_list_pop mt_pop (pv 1)))
      (pss_cons (ps_set (i := 5) sc_write_tree.nd rfl (Or.inl rfl) (pe_bm0 PySem.F.plainAttrs_list PySem.F.slot_list_pop PySem.F.type_list_pop mt_pop (pv 1)))
      (pss_cons (ps_set (i := 6) sc_write_tree.nd rfl (Or.inl rfl) (pe_ifExp (pt_cmpR op_in_seq (pv 2) (pe_tup (pa_cons pe_str (pa_cons pe_str pa_nil))) (by rfl)) (C8.pe_gc (v := .int 0) rfl T.g_SUM) (C8.pe_gc (v := .int 1) rfl T.g_PRODUCT)))
      (pss_one (ps_expr (pe_bm PySem.F.plainAttrs_list PySem.F.slot_list_append PySem.F.type_list_append mt_append (pv 1) (pa_cons (pe_tup (pa_cons (pe_op op_add_str (pe_op op_add_str (pe_call (ok_bracketed T) (hr.mono (by decide)) (by rfl) T.g_bracketed T.d_bracketed.F.kp T.d_bracketed.b .nil pass0 (pa_cons (pv 5) (pa_cons (pv 6) pa_nil))) (pe_ix (ix_kdictK (K := K) (w := w) rfl rfl) (pe_glob (v := .ref T.aM) rfl T.g_MARKS rfl) (pv 2) (fun _ _ => rfl))) (pe_call (ok_bracketed T) (hr.mono (by decide)) (by rfl) T.g_bracketed T.d_bracketed.F.kp T.d_bracketed.b .nil pass0 (pa_cons (pv 4) (pa_cons (pe_op op_add (pv 6) pe_int) pa_nil)))) (pa_cons (pv 6) pa_nil))) pa_nil))))))))))))))))
      (pss_one (ps_ret (pe_ix (ix_tupK (K := K) rfl) (pe_ix (ix_listK (K := K) rfl) (pv 1) pe_int (fun _ _ => rfl)) pe_int (fun _ _ => rfl)))))), ?_⟩
    refine g_nil (GM.start ex) fun o ho g0 => ?_
    dsimp only
    refine g_for (K := Hk) (r := rStp) (e_c1 (e_var hv rfl) (by omega)) g0 (fun rest F M' σ' => ∃ (L : List Tr) (a b c d e : Option V), σ' = [some v, some (.ref o), a, b, c, d, e] ∧ Stk t rest L ∧ OnS (rPw 0) M' F o L)
      (fun F e => ⟨[], none, none, none, none, none, rfl, .start hd, ⟨[], upd_same, .nil⟩⟩) (fun l F F' M' σ' e ⟨L, a, b, c, d, e', i1, i2, i3⟩ => ⟨L, a, b, c, d, e', i1, i2, i3.up e⟩) ?_ ?_
    · rintro F0 e0 st rest sv F M' σ' H' ⟨L, a, b, c, d, e, rfl, hk, hs⟩ g ef hst
      refine s_two hst g.f ?_
      dsimp only [List.set]
      have hL : L.length ≤ 10000 := by have := hk.len; omega
      have k0 : ∀ {F c d e}, E rV (tVar 2) [some v, some (.ref o), some (.str (kw st)), some (thing st), c, d, e] F (.str (kw st)) := e_v rfl
      refine g_if ((t_test (e_inV2 (x := "num") (y := "name") k0)).as (kw_nn _)) g (fun c1 H1 g1 => ?_) (fun c1 H1 g1 => ?_)
      · cases st with
        | num z =>
          refine g_stk (r := rPw 0) (u := .num z) (o_var rfl) hs hL g1 (fun H e Q q => (e_pk (p := (z, 3)) (e_var rfl rfl) e_int) H e Q q) fun H2 F2 M2 g2 e2 hs2 _ => ?_
          exact ⟨F2, M2, g2, ef.trans e2, _, _, _, _, _, _, rfl, hk.num.2, hs2⟩
        | name z =>
          refine g_stk (r := rPw 0) (u := .name z) (o_var rfl) hs hL g1 (fun H e Q q => (e_pk (p := (z, 3)) (e_var rfl rfl) e_int) H e Q q) fun H2 F2 M2 g2 e2 hs2 _ => ?_
          exact ⟨F2, M2, g2, ef.trans e2, _, _, _, _, _, _, rfl, hk.name.2, hs2⟩
        | _ => cases c1
      refine g_if ((t_test (e_eqV (b := "call") k0 e_sV)).as (kw_call _)) g1 (fun c2 H2 g2 => ?_) (fun c2 H2 g2 => ?_)
      · cases st with
        | call z =>
          obtain ⟨hc, u, L, rfl, hu, hk2⟩ := hk.call
          have hz4 := call_len hc
          have hlu := lenW hk hz List.mem_cons_self
          refine g_stkA (o_var rfl) ⟨_, hs.choose_spec.1⟩ g2 ?_
          refine ⟨_, rfl, .inl ⟨S z, rfl, sz_of (by rw [S_len]; omega), S z, rfl, sz_of (by rw [show Str.empty = S [] from rfl, S_app, S_len]; simp; omega), ?_⟩⟩
          rw [show Str.empty = S [] from rfl, S_app]
          refine js_str (x := [40]) (by simp; omega) ?_
          refine g_pops (r := rPw 0) (o_var rfl) hs g2 fun pv H3 M3 hpv g3 hs3 _ => ?_
          obtain ⟨p, rfl, hp⟩ := hpv
          refine ⟨p, _, 0, _, rfl, rfl, st_of (g3.f _ _ hp), rfl, .inl ⟨_, rfl, sz_of (by rw [S_len]; dsimp only; omega), _, rfl, sz_of (by rw [S_app, S_len]; simp only [List.length_append, List.length_cons, List.length_nil]; omega), ?_⟩⟩
          rw [S_app]
          dsimp only
          refine js_str (x := [41]) (by simp; omega) ?_
          refine g_pair (b := 0) (u := .call z u) hs3 (by simp at hL; omega) g3 (by simp [wr]) rfl fun H4 F4 M4 g4 e4 hs4 _ => ?_
          exact ⟨F4, M4, g4, ef.trans e4, _, _, _, _, _, _, rfl, hk2, hs4⟩
        | _ => cases c2
      refine g_if ((t_test (e_eqV (b := "pow") k0 e_sV)).as (kw_pow _)) g2 (fun c3 H3 g3 => ?_) (fun c3 H3 g3 => ?_)
      · cases st with
        | pow d =>
          obtain ⟨hd9, u, L, rfl, hu, hk2⟩ := hk.pow
          have hlu := lenW hk hz List.mem_cons_self
          have hbl := brk_len (wr u) 3
          refine g_stkA (o_var rfl) ⟨_, hs.choose_spec.1⟩ g3 ?_
          refine g_pops (r := rPw 0) (o_var rfl) hs g3 fun pv H4 M4 hpv g4 hs4 _ => ?_
          refine g_sp2 (Ew := fun _ _ _ => False) (r := rPk) (r2 := rInt) (x := ((wr u).1, (wr u).2 + 0)) (y := 3) g4 hpv rfl (by dsimp only; omega) fun xv H5 F5 g5 e5 hx => ?_
          rw [show (3 : Int) = ((3 : Nat) : Int) + 0 by rfl, brkI_eq] at hx
          cases hx
          refine .inl ⟨_, rfl, sz_of (by rw [S_len]; omega), _, rfl, sz_of (by rw [show Str.empty = S [] from rfl, S_app, S_len]; simp; omega), ?_⟩
          rw [show Str.empty = S [] from rfl, S_app]
          refine js_str (x := [94]) (by simp; omega) ?_
          refine ⟨_, rfl, .inr ⟨(d : Int), rfl, log_dig hd9, _, rfl, ?_, ?_⟩⟩
          · rw [dig_S hd9, S_app, S_len]; exact sz_of (by simp; omega)
          · rw [dig_S hd9, S_app]
            refine g_pair (b := 0) (u := .pow u d) (hs4.up e5) (by simp at hL; omega) g5 (by simp [wr]) rfl fun H6 F6 M6 g6 e6 hs6 _ => ?_
            exact ⟨F6, M6, g6, (ef.trans e5).trans e6, _, _, _, _, _, _, rfl, hk2, hs6⟩
        | _ => cases c3
      refine g_if ((t_test (e_eqV (b := "neg") k0 e_sV)).as (kw_neg _)) g3 (fun c4 H4 g4 => ?_) (fun c4 H4 g4 => ?_)
      · cases st with
        | neg =>
          obtain ⟨u, L, rfl, hu, hk2⟩ := hk.neg
          have hlu := lenW hk hz List.mem_cons_self
          have hbl := brk_len (wr u) 1
          refine g_stkA (o_var rfl) ⟨_, hs.choose_spec.1⟩ g4 ?_
          refine js_str (acc := []) (x := [45]) (by decide) ?_
          refine g_pops (r := rPw 0) (o_var rfl) hs g4 fun pv H5 M5 hpv g5 hs5 _ => ?_
          refine g_sp2 (Ew := fun _ _ _ => False) (r := rPk) (r2 := rInt) (x := ((wr u).1, (wr u).2 + 0)) (y := 1) g5 hpv rfl (by dsimp only; omega) fun xv H6 F6 g6 e6 hx => ?_
          rw [show (1 : Int) = ((1 : Nat) : Int) + 0 by rfl, brkI_eq] at hx
          cases hx
          refine .inl ⟨_, rfl, sz_of (by rw [S_len]; omega), _, rfl, sz_of (by rw [S_app, S_len]; simp; omega), ?_⟩
          rw [S_app]
          refine g_pair (b := 0) (u := .neg u) (hs5.up e6) (by simp at hL; omega) g6 (by simp [wr]) rfl fun H7 F7 M7 g7 e7 hs7 _ => ?_
          exact ⟨F7, M7, g7, (ef.trans e6).trans e7, _, _, _, _, _, _, rfl, hk2, hs7⟩
        | _ => cases c4
      · cases st with
        | op q2 =>
          obtain ⟨rr, ll, L, rfl, hul, hur, hk2⟩ := hk.op
          have hl1 := lenW hk hz List.mem_cons_self
          have hl2 := lenW hk hz (List.mem_cons_of_mem _ List.mem_cons_self)
          have hb1 := brk_len (wr ll) q2.rank
          have hb2 := brk_len (wr rr) (q2.rank + 1)
          have hmk : q2.mark.length ≤ 3 := by cases q2 <;> decide
          refine g_pops (r := rPw 0) (o_var rfl) hs g4 fun rv H5 M5 hrv g5 hs5 _ => ?_
          dsimp only [List.set]
          refine g_pops (r := rPw 0) (o_var rfl) hs5 g5 fun lv H6 M6 hlv g6 hs6 _ => ?_
          dsimp only [List.set]
          refine g_set (r := rInt) (x := (q2.rank : Int)) (e_if ((t_test (e_inV2 (x := "add") (y := "sub") (e_v rfl))).as (kw_low _)) (fun c5 => ?_) (fun c5 => ?_)) g6 fun iv H7 F7 g7 e7 hiv => ?_
          · rw [rank_lv (show q2.low = true from c5)]; exact e_int
          · rw [rank_hv (show q2.low = false from c5)]; exact e_int
          cases hiv
          dsimp only [List.set]
          have ea : E rW (tCall (sp2 rPk rInt rW (fun p _ => p.1.length ≤ 90000) brkI) [] E0 (tCons (tVar 5) (tCons (tVar 6) tNil))) [some v, some (.ref o), some (.str (opW q2)), some .non, some rv, some lv, some (.int (q2.rank : Int))] F7 (brk (wr ll) q2.rank) := by
            have := e_c2 (Ew := E0) (σ := [some v, some (.ref o), some (.str (opW q2)), some .non, some rv, some lv, some (.int (q2.rank : Int))]) (Hk := F7) (ta := tVar 5) (tb := tVar 6) (r := rPk) (r2 := rInt) (s := rW) (pre := fun p _ => p.1.length ≤ 90000) (f := brkI) (x := ((wr ll).1, (wr ll).2 + 0)) (y := ((q2.rank : Nat) : Int) + 0) (e_var (up (r := rPk) e7 hlv) rfl) (e_var (by show V.int _ = V.int _; simp) rfl) (by dsimp only; omega)
            rwa [brkI_eq] at this
          have eb : E rW (tCall (sp2 rPk rInt rW (fun p _ => p.1.length ≤ 90000) brkI) [] E0 (tCons (tVar 4) (tCons (tOp (rI0 fun i j => .int (i + j)) (tVar 6) (tC (.int 1))) tNil))) [some v, some (.ref o), some (.str (opW q2)), some .non, some rv, some lv, some (.int (q2.rank : Int))] F7 (brk (wr rr) (q2.rank + 1)) := by
            have := e_c2 (Ew := E0) (σ := [some v, some (.ref o), some (.str (opW q2)), some .non, some rv, some lv, some (.int (q2.rank : Int))]) (Hk := F7) (ta := tVar 4) (tb := tOp (rI0 fun i j => .int (i + j)) (tVar 6) (tC (.int 1))) (r := rPk) (r2 := rInt) (s := rW) (pre := fun p _ => p.1.length ≤ 90000) (f := brkI) (x := ((wr rr).1, (wr rr).2 + 0)) (y := ((q2.rank + 1 : Nat) : Int) + 0) (e_var (up (r := rPk) e7 hrv) rfl) ((e_i0 (f := fun i j => i + j) (e_var (x := (q2.rank : Int)) rfl rfl) e_int).as (by omega)) (by dsimp only; omega)
            rwa [brkI_eq] at this
          have em' : E rW (tOp (rIxD K w) (tC (.ref T.aM)) (tVar 2)) [some v, some (.ref o), some (.str (opW q2)), some .non, some rv, some lv, some (.int (q2.rank : Int))] F7 q2.mark := fun H e Q q => ⟨_, rfl, T.aM, opW q2, _, rfl, rfl, mark_get T q2, q _ H F7 (Grow.refl e) rfl⟩
          have hw : (brk (wr ll) q2.rank ++ q2.mark ++ brk (wr rr) (q2.rank + 1)).length ≤ 50000 := lenW hk2 hz List.mem_cons_self
          simp only [List.length_append] at hw
          refine g_stk (r := rPw 0) (u := .op q2 ll rr) (o_var rfl) (hs6.up e7) (by simp at hL; omega) g7 (fun H e Q q => (e_pk (p := ((wr (.op q2 ll rr)).1, (wr (.op q2 ll rr)).2 + 0)) ((e_catW (e_catW ea em' (by omega)) eb (by simp only [List.length_append]; omega)).as (by simp [wr])) ((e_var (x := (q2.rank : Int)) rfl rfl).as (by simp [wr]))) H e Q q) fun H8 F8 M8 g8 e8 hs8 _ => ?_
          exact ⟨F8, M8, g8, (ef.trans e7).trans e8, _, _, _, _, _, _, rfl, hk2, hs8⟩
        | num z => cases c1
        | name z => cases c1
        | call z => cases c2
        | pow z => cases c3
        | neg => cases c4
    · rintro F M' σ' H' ⟨L, a, b, c, d, e, rfl, hk, hs⟩ g ef
      have := hk.done
      subst this
      obtain ⟨vs, h1, h2⟩ := hs
      cases h2 with
      | cons hp t2 =>
        cases t2
        obtain ⟨p, rfl, hp⟩ := hp
        refine ⟨.ref o, rfl, o, _, 0, _, rfl, rfl, sq_of (g.m _ _ h1), rfl, p, _, 0, _, rfl, rfl, st_of (g.f _ _ hp), rfl, q _ _ _ g.done rfl⟩
end
end F1

set_option Elab.async false
set_option linter.all false
set_option autoImplicit false
set_option maxRecDepth 100000
set_option maxHeartbeats 4000000
/-! # The law's text -/
namespace F1
open PySem L2 Y
open Pl hiding Sp Ss PA PB RA RW RP RS
def tOpr : Stp → Bool | .op _ => true | _ => false
/-- what begins like a word -/
theorem w_word {s : Stp} (h : okS s) : (∃ o, s = .op o) ∨ s = .neg ∨ (∃ d, s = .pow d) ∨ (s.w ≠ [] ∧ ∀ c ∈ s.w, nsg c = true) := by
  cases s with
  | num z => exact .inr (.inr (.inr ⟨(figs_dig h).1, fun c hc => dig_nsg ((figs_dig h).2 c hc)⟩))
  | name z => exact .inr (.inr (.inr (name_nsg h)))
  | call z => exact .inr (.inr (.inr ⟨(call_notNum h).2.2.1, (call_notNum h).2.2.2⟩))
  | neg => exact .inr (.inl rfl)
  | pow d => exact .inr (.inr (.inl ⟨d, rfl⟩))
  | op o => exact .inl ⟨o, rfl⟩
theorem word_not {x : W} (h : ∀ c ∈ x, nsg c = true) {k : Nat} (hk : nsg k = false) : x ≠ [k] := fun e => by
  rw [e] at h
  have := h k List.mem_cons_self
  rw [hk] at this; cases this
theorem w_opr {s : Stp} (h : okS s) : decide (s.w ∈ [[43], [45], [42], [47]]) = tOpr s := by
  rcases w_word h with ⟨o, rfl⟩ | rfl | ⟨d, rfl⟩ | ⟨h1, h2⟩
  · cases o <;> decide
  · decide
  · exact decide_eq_false (by show ¬ ([94, 48 + d] ∈ _); simp)
  · have e : tOpr s = false := by
      cases s with
      | op o => exact absurd (h2 o.c List.mem_cons_self) (by cases o <;> decide)
      | _ => rfl
    rw [e, decide_eq_false]
    simp only [List.mem_cons, List.mem_nil_iff, or_false, not_or]
    exact ⟨word_not h2 (by decide), word_not h2 (by decide), word_not h2 (by decide), word_not h2 (by decide)⟩
theorem w_neg {s : Stp} (h : okS s) : decide (s.w = [126]) = tNeg s := by
  rcases w_word h with ⟨o, rfl⟩ | rfl | ⟨d, rfl⟩ | ⟨h1, h2⟩
  · cases o <;> decide
  · decide
  · exact decide_eq_false (by show ¬ ([94, 48 + d] = [126]); simp)
  · have e : tNeg s = false := by
      cases s with
      | neg => exact absurd (h2 126 List.mem_cons_self) (by decide)
      | _ => rfl
    rw [e, decide_eq_false]
    exact word_not h2 (by decide)
theorem w_hd {s : Stp} (h : okS s) : ∃ c r, s.w = c :: r ∧ decide (c = 94) = tPow s := by
  rcases w_word h with ⟨o, rfl⟩ | rfl | ⟨d, rfl⟩ | ⟨h1, h2⟩
  · exact ⟨o.c, [], rfl, by cases o <;> decide⟩
  · exact ⟨126, [], rfl, by decide⟩
  · exact ⟨94, [48 + d], rfl, rfl⟩
  · cases e : s.w with
    | nil => exact absurd e h1
    | cons c r =>
      refine ⟨c, r, rfl, ?_⟩
      have hc := h2 c (by rw [e]; exact List.mem_cons_self)
      have : tPow s = false := by
        cases s with
        | pow d => exact absurd (h2 94 List.mem_cons_self) (by decide)
        | _ => rfl
      rw [this, decide_eq_false (nsg_ne hc).2.2.1]
theorem w_call {s : Stp} (h : okS s) : isCall s.w = tCal s := by
  cases s with
  | call z => exact h
  | num z =>
    show isCall z = false
    cases e : isCall z with
    | false => rfl
    | true => have := (call_notNum e).1; rw [show figs z = true from h] at this; cases this
  | name z =>
    show isCall z = false
    cases e : isCall z with
    | false => rfl
    | true => have := (call_notNum e).2.1; rw [show isName z = true from h] at this; cases this
  | neg => rfl
  | pow d =>
    show isCall [94, 48 + d] = false
    cases e : isCall [94, 48 + d] with
    | false => rfl
    | true => exact absurd ((call_notNum e).2.2.2 94 List.mem_cons_self) (by decide)
  | op o => cases o <;> rfl
theorem w_len {s : Stp} (h : okdS s) : s.w.length ≤ 40 := by
  cases s with
  | num z => exact h.2 z rfl
  | name z => have := name_len h.1; show z.length ≤ 40; omega
  | call z => have := call_len h.1; show z.length ≤ 40; omega
  | neg => decide
  | pow d => show 2 ≤ 40; decide
  | op o => show 1 ≤ 40; decide
section
variable {P : Program} {w : World} {K : PySem.W.Frag} {mg : Str → Option Value} {base : Heap}
theorem e_isCall (T : Txt w K mg) {σ : L2.St} {Hk : Hp} {ta : TE} {x : W} {Ew : XK} (h : E rW ta σ Hk x) : E rBl (tCall (sp1 rW rBl (fun _ => True) isCall) [] Ew (tCons ta tNil)) σ Hk (isCall x) := e_c1 h trivial
/-- a formula of the law: the words of a tree -/
def rF : Rp Tr := fun H v t => rLst rWd H v (pst t)
instance : Mono rF := ⟨fun e h => up (r := rLst rWd) e h⟩
theorem e_F {σ : L2.St} {Hk : Hp} {ta : TE} {t : Tr} (h : E rF ta σ Hk t) : E (rLst rWd) ta σ Hk (pst t) := fun H e Q q => h H e Q fun v H2 F g hv => q v H2 F g hv
theorem e_wd {σ : L2.St} {Hk : Hp} {s : Stp} {i : Nat} {v : V} (h : rWd Hk v s) (hi : σ[i]? = some (some v)) : E rW (tVar i) σ Hk s.w := e_var (r := rW) h hi
theorem ok__law_text (T : Txt w K mg) : FnOk P w K mg base CX0 2 T.d__law_text.a T.d__law_text.fd ["formula"] (sp1 rF rW preT txt) := by
  refine T.d__law_text.F.ok sc__law_text (fun vs H Q Ew h => ?_) (fun cdv A outer s H vs Q Ew hr h => ?_)
  · obtain ⟨_, _, v, x, rfl, _⟩ := h; rfl
  · obtain ⟨Hk, ex, v, t, rfl, hv, ⟨hd, hz⟩, q⟩ := h
    refine ⟨_, (pss_cons (ps_set (i := 1) sc__law_text.nd rfl (Or.inl rfl) (pe_lst pa_nil))
      (pss_cons (ps_for PassesOwn.never rfl (pi_list (pv 0)) (pg_name (i := 2) sc__law_text.nd rfl (Or.inl rfl) (hf := Or.inr rfl))
      (pss_one (ps_if (pt_cmpR op_in_seq (pv 2) (pe_tup (pa_cons pe_str (pa_cons pe_str (pa_cons pe_str (pa_cons pe_str pa_nil))))) (by rfl)) (pss_cons (ps_set (i := 3) sc__law_text.nd rfl (Or.inl rfl) (pe_ifExp (pt_cmpR op_in_seq (pv 2) (pe_tup (pa_cons pe_str (pa_cons pe_str pa_nil))) (by rfl)) pe_int pe_int))
      (pss_cons (ps_set (i := 4) sc__law_text.nd rfl (Or.inl rfl) (pe_call (ok__law_held T) (hr.mono (by decide)) (by rfl) T.g__law_held T.d__law_held.F.kp T.d__law_held.b .nil pass0 (pa_cons (pe_bm0 PySem.F.plainAttrs_list PySem.F.slot_list_pop PySem.F.type_list_pop mt_pop (pv 1)) (pa_cons (pe_op op_add (pv 3) pe_int) pa_nil))))
      (pss_cons (ps_set (i := 5) sc__law_text.nd rfl (Or.inl rfl) (pe_call (ok__law_held T) (hr.mono (by decide)) (by rfl) T.g__law_held T.d__law_held.F.kp T.d__law_held.b .nil pass0 (pa_cons (pe_bm0 PySem.F.plainAttrs_list PySem.F.slot_list_pop PySem.F.type_list_pop mt_pop (pv 1)) (pa_cons (pv 3) pa_nil))))
      (pss_one (ps_expr (pe_bm PySem.F.plainAttrs_list PySem.F.slot_list_append PySem.F.type_list_append mt_append (pv 1) (pa_cons (pe_tup (pa_cons (pe_ifExp (pt_cmpR op_eq (pv 3) pe_int (nomark _)) (pe_op op_add_str (pe_op op_add_str (pe_op op_add_str (pe_op op_add_str (pv 5) pe_str) (pv 2)) pe_str) (pv 4)) (pe_op op_add_str (pe_op op_add_str (pv 5) (pv 2)) (pv 4))) (pa_cons (pv 3) pa_nil))) pa_nil))))))) (pss_one (ps_if (pt_cmpR op_eq (pv 2) pe_str (nomark _)) (pss_one (ps_expr (pe_bm PySem.F.plainAttrs_list PySem.F.slot_list_append PySem.F.type_list_append mt_append (pv 1) (pa_cons (pe_tup (pa_cons (pe_op op_add_str pe_str (pe_call (ok__law_held T) (hr.mono (by decide)) (by rfl) T.g__law_held T.d__law_held.F.kp T.d__law_held.b .nil pass0 (pa_cons (pe_bm0 PySem.F.plainAttrs_list PySem.F.slot_list_pop PySem.F.type_list_pop mt_pop (pv 1)) (pa_cons pe_int pa_nil)))) (pa_cons pe_int pa_nil))) pa_nil)))) (pss_one (ps_if (pt_cmpR op_eq (pe_ix ix_str (pv 2) pe_int (fun _ _ => rfl)) pe_str (nomark _)) (pss_one (ps_expr (pe_bm PySem.F.plainAttrs_list PySem.F.slot_list_append PySem.F.type_list_append mt_append (pv 1) (pa_cons (pe_tup (pa_cons (pe_op op_add_str (pe_call (ok__law_held T) (hr.mono (by decide)) (by rfl) T.g__law_held T.d__law_held.F.kp T.d__law_held.b .nil pass0 (pa_cons (pe_bm0 PySem.F.plainAttrs_list PySem.F.slot_list_pop PySem.F.type_list_pop mt_pop (pv 1)) (pa_cons pe_int pa_nil))) (pv 2)) (pa_cons pe_int pa_nil))) pa_nil)))) (pss_one (ps_if (pt_val (pe_call (ok__law_is_call T) (hr.mono (by decide)) (by rfl) T.g__law_is_call T.d__law_is_call.F.kp T.d__law_is_call.b .nil pass0 (pa_cons (pv 2) pa_nil))) (pss_one (ps_expr (pe_bm PySem.F.plainAttrs_list PySem.F.slot_list_append PySem.F.type_list_append mt_append (pv 1) (pa_cons (pe_tup (pa_cons (pe_op op_add_str (pe_op op_add_str (pe_op op_add_str (pv 2) pe_str) (pe_ix (ix_tupK (K := K) rfl) (pe_bm0 PySem.F.plainAttrs_list PySem.F.slot_list_pop PySem.F.type_list_pop mt_pop (pv 1)) pe_int (fun _ _ => rfl))) pe_str) (pa_cons pe_int pa_nil))) pa_nil)))) (pss_one (ps_expr (pe_bm PySem.F.plainAttrs_list PySem.F.slot_list_append PySem.F.type_list_append mt_append (pv 1) (pa_cons (pe_tup (pa_cons (pv 2) (pa_cons pe_int pa_nil))) pa_nil)))))))))))))
      (pss_one (ps_ret (pe_ix (ix_tupK (K := K) rfl) (pe_ix (ix_listK (K := K) rfl) (pv 1) pe_int (fun _ _ => rfl)) pe_int (fun _ _ => rfl)))))), ?_⟩
    refine g_nil (GM.start ex) fun o ho g0 => ?_
    dsimp only
    refine g_for (K := Hk) (r := rWd) (e_F (e_var hv rfl)) g0 (fun rest F M' σ' => ∃ (L : List Tr) (a b c d : Option V), σ' = [some v, some (.ref o), a, b, c, d] ∧ Stk t rest L ∧ OnS (rPw 1) M' F o L)
      (fun F e => ⟨[], none, none, none, none, rfl, .start hd, ⟨[], upd_same, .nil⟩⟩) (fun l F F' M' σ' e ⟨L, a, b, c, d, i1, i2, i3⟩ => ⟨L, a, b, c, d, i1, i2, i3.up e⟩) ?_ ?_
    · rintro F0 e0 st rest sv F M' σ' H' ⟨L, a, b, c, d, rfl, hk, hs⟩ g ef hst
      cases hst
      show tIfS _ _ _ _ _ _
      dsimp only [List.set]
      have hL : L.length ≤ 10000 := by have := hk.len; omega
      have hos := hk.os st List.mem_cons_self
      have hwl := w_len hos
      have k0 : ∀ {F c d e}, E rW (tVar 2) [some v, some (.ref o), some (.str (S st.w)), c, d, e] F st.w := e_var rfl rfl
      refine g_if ((t_test (e_inT (l := [[43], [45], [42], [47]]) k0 (ea_w (e_w rfl) (ea_w (e_w rfl) (ea_w (e_w rfl) (ea_w (e_w rfl) ea_w0)))) (by decide))).as (w_opr hos.1)) g (fun c1 H1 g1 => ?_) (fun c1 H1 g1 => ?_)
      · cases st with
        | op q2 =>
          obtain ⟨rr, ll, L, rfl, hul, hur, hk2⟩ := hk.op
          have hw : (brk (wr ll) q2.rank ++ q2.mark ++ brk (wr rr) (q2.rank + 1)).length ≤ 50000 := lenW hk2 hz List.mem_cons_self
          simp only [List.length_append] at hw
          have hl1 := lenW hk hz List.mem_cons_self
          have hl2 := lenW hk hz (List.mem_cons_of_mem _ List.mem_cons_self)
          refine g_set (r := rInt) (x := ((q2.rank + 1 : Nat) : Int)) (e_if ((t_test (e_inT (l := [[43], [45]]) (e_var (r := rW) (x := [q2.c]) rfl rfl) (ea_w (e_w rfl) (ea_w (e_w rfl) ea_w0)) (by decide))).as (show _ = q2.low by cases q2 <;> decide)) (fun c5 => ?_) (fun c5 => ?_)) g1 fun iv H7 F7 g7 e7 hiv => ?_
          · rw [rank_lv c5]; exact e_int
          · rw [rank_hv c5]; exact e_int
          cases hiv
          dsimp only [List.set]
          have hs7 := hs.up e7
          refine g_pops (r := rPw 1) (o_var rfl) hs7 g7 fun rv H5 M5 hrv g5 hs5 _ => ?_
          refine ⟨_, rfl, _, _, rfl, rfl, ?_⟩
          refine g_sp2 (Ew := fun _ _ _ => False) (r := rPk) (r2 := rInt) (x := ((wr rr).1, (wr rr).2 + 1)) (y := ((q2.rank + 1 : Nat) : Int) + 1) g5 hrv (by show V.int _ = V.int _; rfl) (by dsimp only; omega) fun xv H6 F6 g6 e6 hx => ?_
          rw [brkI_eq] at hx
          cases hx
          dsimp only [List.set]
          refine g_pops (r := rPw 1) (o_var rfl) (hs5.up e6) g6 fun lv H8 M8 hlv g8 hs8 _ => ?_
          refine ⟨_, rfl, ?_⟩
          refine g_sp2 (Ew := fun _ _ _ => False) (r := rPk) (r2 := rInt) (x := ((wr ll).1, (wr ll).2 + 1)) (y := (q2.rank : Int) + 1) g8 hlv (by show V.int _ = V.int _; simp) (by dsimp only; omega) fun yv H9 F9 g9 e9 hy => ?_
          rw [brkI_eq] at hy
          cases hy
          dsimp only [List.set]
          have vl : ∀ {F : Hp}, E rW (tVar 5) [some v, some (.ref o), some (.str (S [q2.c])), some (.int ((q2.rank + 1 : Nat) : Int)), some (.str (S (brk (wr rr) (q2.rank + 1)))), some (.str (S (brk (wr ll) q2.rank)))] F (brk (wr ll) q2.rank) := e_var rfl rfl
          have vr : ∀ {F : Hp}, E rW (tVar 4) [some v, some (.ref o), some (.str (S [q2.c])), some (.int ((q2.rank + 1 : Nat) : Int)), some (.str (S (brk (wr rr) (q2.rank + 1)))), some (.str (S (brk (wr ll) q2.rank)))] F (brk (wr rr) (q2.rank + 1)) := e_var rfl rfl
          have vw : ∀ {F : Hp}, E rW (tVar 2) [some v, some (.ref o), some (.str (S [q2.c])), some (.int ((q2.rank + 1 : Nat) : Int)), some (.str (S (brk (wr rr) (q2.rank + 1)))), some (.str (S (brk (wr ll) q2.rank)))] F [q2.c] := e_var rfl rfl
          refine g_stk (r := rPw 1) (u := .op q2 ll rr) (o_var rfl) (hs8.up e9) (by simp at hL; omega) g9 (fun H e Q q => (e_pk (p := ((wr (.op q2 ll rr)).1, (wr (.op q2 ll rr)).2 + 1)) (e_if (b := q2.low) ((t_test (e_eqI (i := ((q2.rank + 1 : Nat) : Int)) (e_var rfl rfl) e_int)).as (by cases q2 <;> decide)) (fun c6 => ?_) (fun c6 => ?_)) ((e_var (x := ((q2.rank + 1 : Nat) : Int)) rfl rfl).as (by simp [wr]))) H e Q q) fun H8 F8 M8 g8 e8 hs8 _ => ?_
          · have hm : q2.mark = [32] ++ [q2.c] ++ [32] := by cases q2 <;> revert c6 <;> decide
            rw [hm] at hw
            simp at hw
            refine (e_catW (e_catW (e_catW (e_catW vl (e_w (a := [32]) rfl) (by simp; omega)) vw (by simp; omega)) (e_w (a := [32]) rfl) (by simp; omega)) vr (by simp; omega)).as ?_
            simp [wr, hm]
          · have hm : q2.mark = [q2.c] := by cases q2 <;> revert c6 <;> decide
            rw [hm] at hw
            simp at hw
            refine (e_catW (e_catW vl vw (by simp; omega)) vr (by simp; omega)).as ?_
            simp [wr, hm]
          · exact ⟨F8, M8, g8, (((ef.trans e7).trans e6).trans e9).trans e8, _, _, _, _, _, rfl, hk2, hs8⟩
        | _ => cases c1
      refine g_if (t_test ((e_eqW (b := [126]) k0 (e_w rfl)).as (w_neg hos.1))) g1 (fun c2 H2 g2 => ?_) (fun c2 H2 g2 => ?_)
      · cases st with
        | neg =>
          obtain ⟨u, L, rfl, hu, hk2⟩ := hk.neg
          have hlu := lenW hk hz List.mem_cons_self
          have hbl := brk_len (wr u) 1
          refine g_stkA (o_var rfl) ⟨_, hs.choose_spec.1⟩ g2 ?_
          refine g_pops (r := rPw 1) (o_var rfl) hs g2 fun pv H5 M5 hpv g5 hs5 _ => ?_
          refine g_sp2 (Ew := fun _ _ _ => False) (r := rPk) (r2 := rInt) (x := ((wr u).1, (wr u).2 + 1)) (y := 2) g5 hpv rfl (by dsimp only; omega) fun xv H6 F6 g6 e6 hx => ?_
          rw [show (2 : Int) = ((1 : Nat) : Int) + 1 by rfl, brkI_eq] at hx
          cases hx
          refine ⟨S [45], _, rfl, rfl, sz_of (by rw [S_len, S_len]; simp; omega), ?_⟩
          rw [S_app]
          refine g_pair (b := 1) (u := .neg u) (hs5.up e6) (by simp at hL; omega) g6 (by simp [wr]) rfl fun H7 F7 M7 g7 e7 hs7 _ => ?_
          exact ⟨F7, M7, g7, (ef.trans e6).trans e7, _, _, _, _, _, rfl, hk2, hs7⟩
        | _ => cases c2
      obtain ⟨c0, r0, hw0, hp0⟩ := w_hd hos.1
      refine g_if (b := tPow st) (t_test ((e_eqW (a := [c0]) (b := [94]) (e_atW (k := 0) k0 e_int (Int.le_refl _) (by rw [hw0]; rfl) (by omega)) (e_w rfl)).as (by rw [← hp0]; simp))) g2 (fun c3 H3 g3 => ?_) (fun c3 H3 g3 => ?_)
      · cases st with
        | pow d =>
          obtain ⟨hd9, u, L, rfl, hu, hk2⟩ := hk.pow
          have hlu := lenW hk hz List.mem_cons_self
          have hbl := brk_len (wr u) 3
          refine g_stkA (o_var rfl) ⟨_, hs.choose_spec.1⟩ g3 ?_
          refine g_pops (r := rPw 1) (o_var rfl) hs g3 fun pv H4 M4 hpv g4 hs4 _ => ?_
          refine g_sp2 (Ew := fun _ _ _ => False) (r := rPk) (r2 := rInt) (x := ((wr u).1, (wr u).2 + 1)) (y := 4) g4 hpv rfl (by dsimp only; omega) fun xv H5 F5 g5 e5 hx => ?_
          rw [show (4 : Int) = ((3 : Nat) : Int) + 1 by rfl, brkI_eq] at hx
          cases hx
          refine ⟨_, rfl, _, S [94, 48 + d], rfl, rfl, sz_of (by rw [S_len, S_len]; simp; omega), ?_⟩
          rw [S_app]
          refine g_pair (b := 1) (u := .pow u d) (hs4.up e5) (by simp at hL; omega) g5 (by simp [wr]) rfl fun H6 F6 M6 g6 e6 hs6 _ => ?_
          exact ⟨F6, M6, g6, (ef.trans e5).trans e6, _, _, _, _, _, rfl, hk2, hs6⟩
        | _ => cases c3
      refine g_if (t_b ((e_isCall T k0).as (w_call hos.1))) g3 (fun c4 H4 g4 => ?_) (fun c4 H4 g4 => ?_)
      · cases st with
        | call z =>
          obtain ⟨hc, u, L, rfl, hu, hk2⟩ := hk.call
          have hz4 := call_len hc
          have hlu := lenW hk hz List.mem_cons_self
          refine g_stkA (o_var rfl) ⟨_, hs.choose_spec.1⟩ g4 ?_
          refine ⟨_, rfl, S z, S [40], rfl, rfl, sz_of (by rw [S_len, S_len]; simp; omega), ?_⟩
          rw [S_app]
          refine g_pops (r := rPw 1) (o_var rfl) hs g4 fun pv H5 M3 hpv g5 hs3 _ => ?_
          obtain ⟨p, rfl, hp⟩ := hpv
          refine ⟨p, _, 0, _, rfl, rfl, st_of (g5.f _ _ hp), rfl, _, S (wr u).1, rfl, rfl, sz_of (by rw [S_len, S_len]; simp; omega), ?_⟩
          rw [S_app]
          refine ⟨_, S [41], rfl, rfl, sz_of (by rw [S_len, S_len]; simp; omega), ?_⟩
          rw [S_app]
          refine g_pair (b := 1) (u := .call z u) hs3 (by simp at hL; omega) g5 (by simp [wr]) rfl fun H6 F6 M6 g6 e6 hs6 _ => ?_
          exact ⟨F6, M6, g6, ef.trans e6, _, _, _, _, _, rfl, hk2, hs6⟩
        | _ => cases c4
      · cases st with
        | num z =>
          refine g_stk (r := rPw 1) (u := .num z) (o_var rfl) hs hL g4 (fun H e Q q => (e_pk (p := (z, 4)) (e_var rfl rfl) e_int) H e Q q) fun H2 F2 M2 g2 e2 hs2 _ => ?_
          exact ⟨F2, M2, g2, ef.trans e2, _, _, _, _, _, rfl, hk.num.2, hs2⟩
        | name z =>
          refine g_stk (r := rPw 1) (u := .name z) (o_var rfl) hs hL g4 (fun H e Q q => (e_pk (p := (z, 4)) (e_var rfl rfl) e_int) H e Q q) fun H2 F2 M2 g2 e2 hs2 _ => ?_
          exact ⟨F2, M2, g2, ef.trans e2, _, _, _, _, _, rfl, hk.name.2, hs2⟩
        | call z => cases c4
        | pow z => cases c3
        | neg => cases c2
        | op q => cases c1
    · rintro F M' σ' H' ⟨L, a, b, c, d, rfl, hk, hs⟩ g ef
      have := hk.done
      subst this
      obtain ⟨vs, h1, h2⟩ := hs
      cases h2 with
      | cons hp t2 =>
        cases t2
        obtain ⟨p, rfl, hp⟩ := hp
        refine ⟨.ref o, rfl, o, _, 0, _, rfl, rfl, sq_of (g.m _ _ h1), rfl, p, _, 0, _, rfl, rfl, st_of (g.f _ _ hp), rfl, q _ _ _ g.done rfl⟩
end
end F1

set_option Elab.async false
set_option linter.all false
set_option autoImplicit false
set_option maxRecDepth 100000
set_option maxHeartbeats 4000000
/-! # Trees built anew; degrees -/
namespace F1
open PySem L2 Y
open Pl hiding Sp Ss PA PB RA RW RP RS
/-- the steps of a tree -/
def rSt : Rp Tr := fun H v t => rLst rStp H v (pst t)
instance : Mono rSt := ⟨fun e h => up (r := rLst rStp) e h⟩
/-- a dict of one tree -/
def rTab : Rp (W × Tr) := fun H v p => ∃ d tv, v = .ref d ∧ H d = some (.dK [(.inr (S p.1), tv)]) ∧ rTr H tv p.2
instance : Mono rTab := ⟨fun e ⟨d, tv, h1, h2, h3⟩ => ⟨d, tv, h1, e _ _ h2, up (r := rTr) e h3⟩⟩
/-- a dict of numbers -/
def rDg : Rp (W → Option Int) := fun H v g => ∃ d kvs, v = .ref d ∧ H d = some (.dK kvs) ∧ ∀ s, valV kvs (.inr (S s)) = (g s).map V.int
instance : Mono rDg := ⟨fun e ⟨d, kvs, h1, h2, h3⟩ => ⟨d, kvs, h1, e _ _ h2, h3⟩⟩
def rPut (n : W) (u : Tr) : Rp Tr := fun H v t => rTr H v (put n u t)
instance (n : W) (u : Tr) : Mono (rPut n u) := ⟨fun e h => up (r := rTr) e h⟩
def rDeg (f : W → Int) : Rp Tr := fun _ v t => v = .int (deg f t)
instance (f : W → Int) : Mono (rDeg f) := ⟨fun _ h => h⟩
section
variable {P : Program} {w : World} {K : PySem.W.Frag} {mg : Str → Option Value} {base : Heap}
section
variable {r : Rp Tr} [Mono r] {K1 H M K0 H0 M0 : Hp} {Q : VK}
theorem g_tupP {o : Addr} {L : List Tr} {u : Tr} {vs : List V} (hs : OnS r M K1 o L) (hl : L.length ≤ 10000) (g : GM K0 H0 M0 K1 H M) (hz : vs.length ≤ 10) (h : ∀ F p, Ex K1 F → F p = some (.tup vs) → r F (.ref p) u)
    (kk : ∀ H3 F M3, GM K0 H0 M0 F H3 M3 → Ex K1 F → OnS r M3 F o (u :: L) → (∀ a, a ≠ o → M3 a = M a) → Q .non H3) :
    vs.length ≤ sizeLine ∧ ∀ p, H p = none → rAppend (.ref o) [.ref p] (upd H p (.tup vs)) Q :=
  ⟨sz_of (by omega), fun p hp => by
    have g2 := g.newk (u := .tup vs) hp
    have e2 : Ex K1 (upd K1 p (.tup vs)) := Ex.new (g.f.free hp)
    exact g_pushS (u := u) (hs.up e2) hl g2 (h _ p e2 upd_same) fun H3 M3 g3 hs3 hm => kk H3 _ M3 g3 e2 hs3 hm⟩
end
theorem ok_built (T : Txt w K mg) : FnOk P w K mg base CX0 1 T.d_built.a T.d_built.fd ["steps", "table"] (sp2 rSt rTab rTr (fun t p => preT t) fun t p => put p.1 p.2 t) := by
  refine T.d_built.F.ok sc_built (fun vs H Q Ew h => ?_) (fun cdv A outer s H vs Q Ew hr h => ?_)
  · obtain ⟨_, _, v, x, v2, y, rfl, _⟩ := h; rfl
  · obtain ⟨Hk, ex, v, t, v2, ⟨n, u⟩, rfl, hv, ⟨d, tv, rfl, hd0, htv⟩, ⟨hd, hz⟩, q⟩ := h
    refine ⟨_, (pss_cons (ps_set (i := 2) sc_built.nd rfl (Or.inl rfl) (pe_lst pa_nil))
      (pss_cons (ps_for PassesOwn.never rfl (pi_list (pv 0)) (pg_tup rfl (pgs_cons (pg_name (i := 3) sc_built.nd rfl (Or.inl rfl) (hf := Or.inr rfl)) (pgs_cons (pg_name (i := 4) sc_built.nd rfl (Or.inl rfl) (hf := Or.inr rfl)) pgs_nil)))
      (pss_one (ps_if (pt_cmpR op_eq (pv 3) pe_str (nomark _)) (pss_one (ps_expr (pe_bm PySem.F.plainAttrs_list PySem.F.slot_list_append PySem.F.type_list_append mt_append (pv 2) (pa_cons (pe_tup (pa_cons (pv 3) (pa_cons (pv 4) pa_nil))) pa_nil)))) (pss_one (ps_if (pt_cmpR op_eq (pv 3) pe_str (nomark _)) (pss_one (ps_expr (pe_bm PySem.F.plainAttrs_list PySem.F.slot_list_append PySem.F.type_list_append mt_append (pv 2) (pa_cons (pe_dget2 (hu_of hr) (pv 1) (pv 4) (pe_tup (pa_cons (pv 3) (pa_cons (pv 4) pa_nil))) ⟨rfl, rfl, rfl, rfl⟩) pa_nil)))) (pss_one (ps_if (pt_cmpR op_eq (pv 3) pe_str (nomark _)) (pss_one (ps_expr (pe_bm PySem.F.plainAttrs_list PySem.F.slot_list_append PySem.F.type_list_append mt_append (pv 2) (pa_cons (pe_tup (pa_cons (pv 3) (pa_cons (pe_bm0 PySem.F.plainAttrs_list PySem.F.slot_list_pop PySem.F.type_list_pop mt_pop (pv 2)) pa_nil))) pa_nil)))) (pss_one (ps_if (pt_cmpR op_eq (pv 3) pe_str (nomark _)) (pss_one (ps_expr (pe_bm PySem.F.plainAttrs_list PySem.F.slot_list_append PySem.F.type_list_append mt_append (pv 2) (pa_cons (pe_tup (pa_cons (pv 3) (pa_cons (pe_bm0 PySem.F.plainAttrs_list PySem.F.slot_list_pop PySem.F.type_list_pop mt_pop (pv 2)) (pa_cons (pv 4) pa_nil)))) pa_nil)))) (pss_one (ps_if (pt_cmpR op_eq (pv 3) pe_str (nomark _)) (pss_one (ps_expr (pe_bm PySem.F.plainAttrs_list PySem.F.slot_list_append PySem.F.type_list_append mt_append (pv 2) (pa_cons (pe_tup (pa_cons (pv 3) (pa_cons (pv 4) (pa_cons (pe_bm0 PySem.F.plainAttrs_list PySem.F.slot_list_pop PySem.F.type_list_pop mt_pop (pv 2)) pa_nil)))) pa_nil)))) (pss_cons (ps_set (i := 5) sc_built.nd rfl (Or.inl rfl) (pe_bm0 PySem.F.plainAttrs_list PySem.F.slot_list_pop PySem.F.type_list_pop mt_pop (pv 2)))
      (pss_one (ps_expr (pe_bm PySem.F.plainAttrs_list PySem.F.slot_list_append PySem.F.type_list_append mt_append (pv 2) (pa_cons (pe_tup (pa_cons (pv 3) (pa_cons (pe_bm0 PySem.F.plainAttrs_list PySem.F.slot_list_pop PySem.F.type_list_pop mt_pop (pv 2)) (pa_cons (pv 5) pa_nil)))) pa_nil))))))))))))))))
      (pss_one (ps_ret (pe_ix (ix_listK (K := K) rfl) (pv 2) pe_int (fun _ _ => rfl)))))), ?_⟩
    refine g_nil (GM.start ex) fun o ho g0 => ?_
    dsimp only
    refine g_for (K := Hk) (r := rStp) (fun H e Q q => (e_var (r := rSt) hv rfl) H e Q fun v H2 F g hv => q v H2 F g hv) g0 (fun rest F M' σ' => ∃ (L : List Tr) (a b c : Option V), σ' = [some v, some (.ref d), some (.ref o), a, b, c] ∧ Ex Hk F ∧ Stk t rest L ∧ OnS (rPut n u) M' F o L)
      (fun F e => ⟨[], none, none, none, rfl, e, .start hd, ⟨[], upd_same, .nil⟩⟩) (fun l F F' M' σ' e ⟨L, a, b, c, i1, i0, i2, i3⟩ => ⟨L, a, b, c, i1, i0.trans e, i2, i3.up e⟩) ?_ ?_
    · rintro F0 e0 st rest sv F M' σ' H' ⟨L, a, b, c, rfl, i0, hk, hs⟩ g ef hst
      refine s_two hst g.f ?_
      dsimp only [List.set]
      have hL : L.length ≤ 10000 := by have := hk.len; omega
      have k0 : ∀ {F c}, E rV (tVar 3) [some v, some (.ref d), some (.ref o), some (.str (kw st)), some (thing st), c] F (.str (kw st)) := e_v rfl
      refine g_if ((t_test (e_eqV (b := "num") k0 e_sV)).as (kw_num _)) g (fun c1 H1 g1 => ?_) (fun c1 H1 g1 => ?_)
      · cases st with
        | num z =>
          refine g_stk (r := rPut n u) (u := .num z) (o_var rfl) hs hL g1 (fun H e Q q => (e_tup2 (e_v rfl) (e_v rfl)) H e Q fun v H2 F g hv => q v H2 F g hv) fun H2 F2 M2 g2 e2 hs2 _ => ?_
          exact ⟨F2, M2, g2, ef.trans e2, _, _, _, _, rfl, i0.trans e2, hk.num.2, hs2⟩
        | _ => cases c1
      refine g_if ((t_test (e_eqV (b := "name") k0 e_sV)).as (kw_name _)) g1 (fun c2 H2 g2 => ?_) (fun c2 H2 g2 => ?_)
      · cases st with
        | name z =>
          refine g_stkA (o_var rfl) ⟨_, hs.choose_spec.1⟩ g2 ?_
          refine ⟨_, rfl, d, rfl, .inl ⟨_, .inl (g2.f _ _ (i0 _ _ hd0))⟩, _, rfl, ?_⟩
          refine ⟨_, rfl, _, rfl, two_le, fun p hp => ?_⟩
          have g3 := g2.newk (u := .tup [.str (kw (.name z)), thing (.name z)]) hp
          have e3 : Ex F (upd F p (.tup [.str (kw (.name z)), thing (.name z)])) := Ex.new (g2.f.free hp)
          refine ⟨_, .inl ⟨_, .inr (S z), .inl (g3.f _ _ (e3 _ _ (i0 _ _ hd0))), rfl, rfl⟩, ?_⟩
          by_cases hnz : z = n
          · subst hnz
            have ev : valV [((.inr (S z) : Key), tv)] (.inr (S z)) = some tv := by unfold valV; simp
            rw [ev]
            refine g_pushS (r := rPut z u) (u := .name z) (hs.up e3) hL g3 (by show rTr _ tv (put z u (.name z)); simp only [put, if_true]; exact up (i0.trans e3) htv) fun H4 M4 g4 hs4 _ => ?_
            exact ⟨_, M4, g4, ef.trans e3, _, _, _, _, rfl, i0.trans e3, hk.name.2, hs4⟩
          · have ev : valV [((.inr (S n) : Key), tv)] (.inr (S z)) = none := by
              unfold valV
              have : ¬ ((.inr (S n) : Key) = .inr (S z)) := fun e => hnz (by
                have := Sum.inr.inj e
                exact (S_inj.mp this).symm)
              simp [this]
            rw [ev]
            refine g_pushS (r := rPut n u) (u := .name z) (hs.up e3) hL g3 (by show rTr _ _ (put n u (.name z)); simp only [put, if_neg hnz]; exact ⟨p, rfl, upd_same⟩) fun H4 M4 g4 hs4 _ => ?_
            exact ⟨_, M4, g4, ef.trans e3, _, _, _, _, rfl, i0.trans e3, hk.name.2, hs4⟩
        | _ => cases c2
      refine g_if ((t_test (e_eqV (b := "neg") k0 e_sV)).as (kw_neg _)) g2 (fun c3 H3 g3 => ?_) (fun c3 H3 g3 => ?_)
      · cases st with
        | neg =>
          obtain ⟨x, L, rfl, hu, hk2⟩ := hk.neg
          refine g_stkA (o_var rfl) ⟨_, hs.choose_spec.1⟩ g3 ?_
          refine ⟨_, rfl, ?_⟩
          refine g_pops (r := rPut n u) (o_var rfl) hs g3 fun pv H4 M4 hpv g4 hs4 _ => ?_
          refine g_tupP (u := .neg x) hs4 (by simp at hL; omega) g4 (by simp) (fun F' p e hp => ⟨pv, ⟨p, rfl, hp⟩, up (r := rTr) e hpv⟩) fun H5 F5 M5 g5 e5 hs5 _ => ?_
          exact ⟨F5, M5, g5, ef.trans e5, _, _, _, _, rfl, i0.trans e5, hk2, hs5⟩
        | _ => cases c3
      refine g_if ((t_test (e_eqV (b := "pow") k0 e_sV)).as (kw_pow _)) g3 (fun c4 H4 g4 => ?_) (fun c4 H4 g4 => ?_)
      · cases st with
        | pow z =>
          obtain ⟨h9, x, L, rfl, hu, hk2⟩ := hk.pow
          refine g_stkA (o_var rfl) ⟨_, hs.choose_spec.1⟩ g4 ?_
          refine ⟨_, rfl, ?_⟩
          refine g_pops (r := rPut n u) (o_var rfl) hs g4 fun pv H5 M5 hpv g5 hs5 _ => ?_
          refine ⟨_, rfl, ?_⟩
          refine g_tupP (u := .pow x z) hs5 (by simp at hL; omega) g5 (by simp) (fun F' p e hp => ⟨pv, ⟨p, rfl, hp⟩, up (r := rTr) e hpv⟩) fun H6 F6 M6 g6 e6 hs6 _ => ?_
          exact ⟨F6, M6, g6, ef.trans e6, _, _, _, _, rfl, i0.trans e6, hk2, hs6⟩
        | _ => cases c4
      refine g_if ((t_test (e_eqV (b := "call") k0 e_sV)).as (kw_call _)) g4 (fun c5 H5 g5 => ?_) (fun c5 H5 g5 => ?_)
      · cases st with
        | call z =>
          obtain ⟨hc, x, L, rfl, hu, hk2⟩ := hk.call
          refine g_stkA (o_var rfl) ⟨_, hs.choose_spec.1⟩ g5 ?_
          refine ⟨_, rfl, _, rfl, ?_⟩
          refine g_pops (r := rPut n u) (o_var rfl) hs g5 fun pv H6 M6 hpv g6 hs6 _ => ?_
          refine g_tupP (u := .call z x) hs6 (by simp at hL; omega) g6 (by simp) (fun F' p e hp => ⟨pv, ⟨p, rfl, hp⟩, up (r := rTr) e hpv⟩) fun H7 F7 M7 g7 e7 hs7 _ => ?_
          exact ⟨F7, M7, g7, ef.trans e7, _, _, _, _, rfl, i0.trans e7, hk2, hs7⟩
        | _ => cases c5
      · cases st with
        | op q2 =>
          obtain ⟨rr, ll, L, rfl, hul, hur, hk2⟩ := hk.op
          refine g_pops (r := rPut n u) (o_var rfl) hs g5 fun rv H6 M6 hrv g6 hs6 _ => ?_
          dsimp only [List.set]
          refine g_stkA (o_var rfl) ⟨_, hs6.choose_spec.1⟩ g6 ?_
          refine ⟨_, rfl, ?_⟩
          refine g_pops (r := rPut n u) (o_var rfl) hs6 g6 fun lv H7 M7 hlv g7 hs7 _ => ?_
          refine ⟨_, rfl, ?_⟩
          refine g_tupP (u := .op q2 ll rr) hs7 (by simp at hL; omega) g7 (by simp) (fun F' p e hp => ⟨lv, rv, ⟨p, rfl, hp⟩, up (r := rTr) e hlv, up (r := rTr) e hrv⟩) fun H8 F8 M8 g8 e8 hs8 _ => ?_
          exact ⟨F8, M8, g8, ef.trans e8, _, _, _, _, rfl, i0.trans e8, hk2, hs8⟩
        | num z => cases c1
        | name z => cases c2
        | neg => cases c3
        | pow z => cases c4
        | call z => cases c5
    · rintro F M' σ' H' ⟨L, a, b, c, rfl, i0, hk, hs⟩ g ef
      have := hk.done
      subst this
      obtain ⟨vs, h1, h2⟩ := hs
      cases h2 with
      | cons hp t2 =>
        cases t2
        exact ⟨.ref o, rfl, o, _, 0, _, rfl, rfl, sq_of (g.m _ _ h1), rfl, q _ _ _ g.done hp⟩
theorem ok_replaced (T : Txt w K mg) : FnOk P w K mg base CX0 3 T.d_replaced.a T.d_replaced.fd ["tree", "table"] (sp2 rTr rTab rTr (fun t p => preT t) fun t p => put p.1 p.2 t) := by
  refine T.d_replaced.F.ok sc_replaced (fun vs H Q Ew h => ?_) (fun cdv A outer s H vs Q Ew hr h => ?_)
  · obtain ⟨_, _, v, x, v2, y, rfl, _⟩ := h; rfl
  · obtain ⟨Hk, ex, v, t, v2, p, rfl, hv, hv2, hd, q⟩ := h
    refine ⟨_, (pss_one (ps_ret (pe_call (ok_built T) (hr.mono (by decide)) (by rfl) T.g_built T.d_built.F.kp T.d_built.b .nil pass0 (pa_cons (pe_call (ok_postfix T) (hr.mono (by decide)) (by rfl) T.g_postfix T.d_postfix.F.kp T.d_postfix.b .nil pass0 (pa_cons (pv 0) pa_nil)) (pa_cons (pv 1) pa_nil))))), ?_⟩
    have e1 : E rSt (tCall (sp1 rTr (rLst rStp) (fun t => size t ≤ 10000) pst) [] E0 (tCons (tVar 0) tNil)) (L2.start ["tree", "table"] [v, v2]) Hk t := fun H e Q q => (e_c1 (Ew := E0) (e_var hv rfl) (by have := hd.2; omega)) H e Q fun v H2 F g hv => q v H2 F g hv
    exact s_ret (e_c2 e1 (e_var hv2 rfl) hd) ex q
/-- what the dict of degrees must have -/
def knows (g : W → Option Int) (t : Tr) : Prop := (∀ s, s ∈ nms t → ∃ i, g s = some i) ∧ (∀ s i, g s = some i → i.natAbs ≤ 7) ∧ ∀ s, figs s = true → g s = none
def dgf (g : W → Option Int) (s : W) : Int := (g s).getD 0
theorem dgf_small {g : W → Option Int} (h : ∀ s i, g s = some i → i.natAbs ≤ 7) (s : W) : (dgf g s).natAbs ≤ 7 := by
  unfold dgf
  cases e : g s with
  | none => exact Nat.zero_le _
  | some i => exact h s i e
theorem nms_pst : ∀ (t : Tr) (s : W), Stp.name s ∈ pst t → s ∈ nms t := by
  intro t
  induction t with
  | num s => intro w hw; cases List.mem_singleton.mp hw
  | name s => intro w hw; cases List.mem_singleton.mp hw; exact List.mem_cons_self
  | call s t ih => intro w hw; rcases List.mem_append.mp hw with z | z
                   · exact ih w z
                   · cases List.mem_singleton.mp z
  | neg t ih => intro w hw; rcases List.mem_append.mp hw with z | z
                · exact ih w z
                · cases List.mem_singleton.mp z
  | pow t d ih => intro w hw; rcases List.mem_append.mp hw with z | z
                  · exact ih w z
                  · cases List.mem_singleton.mp z
  | op o l r i1 i2 =>
    intro w hw
    rcases List.mem_append.mp hw with z | z
    · rcases List.mem_append.mp z with z | z
      · exact List.mem_append.mpr (.inl (i1 w z))
      · exact List.mem_append.mpr (.inr (i2 w z))
    · cases List.mem_singleton.mp z
theorem mul_small {f : W → Int} (hf : ∀ s, (f s).natAbs ≤ 7) {t : Tr} {d : Nat} (h : okd t) (hz : size t ≤ 1000) (h9 : d ≤ 9) : CMulW (deg f t) (d : Int) := by
  have h1 := deg_small hf t h.1
  have h2 : (d : Int).natAbs < 2 ^ 4 := by have : (d : Int).natAbs = d := rfl; omega
  exact mulOk h1 h2 (by omega) (by decide) (by omega)
theorem ok_tree_degree (T : Txt w K mg) : FnOk P w K mg base CX0 3 T.d_tree_degree.a T.d_tree_degree.fd ["tree", "degrees"] (sp2 rTr rDg rInt (fun t g => preT t ∧ knows g t) fun t g => deg (dgf g) t) := by
  refine T.d_tree_degree.F.ok sc_tree_degree (fun vs H Q Ew h => ?_) (fun cdv A outer s H vs Q Ew hr h => ?_)
  · obtain ⟨_, _, v, x, v2, y, rfl, _⟩ := h; rfl
  · obtain ⟨Hk, ex, v, t, v2, gf, rfl, hv, ⟨d, kvs, rfl, hd0, hkv⟩, ⟨⟨hd, hz⟩, hkn, hsm, hfg⟩, q⟩ := h
    have hsm' := dgf_small hsm
    refine ⟨_, (pss_cons (ps_set (i := 2) sc_tree_degree.nd rfl (Or.inl rfl) (pe_lst pa_nil))
      (pss_cons (ps_for PassesOwn.never rfl (pi_list (pe_call (ok_postfix T) (hr.mono (by decide)) (by rfl) T.g_postfix T.d_postfix.F.kp T.d_postfix.b .nil pass0 (pa_cons (pv 0) pa_nil))) (pg_tup rfl (pgs_cons (pg_name (i := 3) sc_tree_degree.nd rfl (Or.inl rfl) (hf := Or.inr rfl)) (pgs_cons (pg_name (i := 4) sc_tree_degree.nd rfl (Or.inl rfl) (hf := Or.inr rfl)) pgs_nil)))
      (pss_one (ps_if (pt_cmpR op_eq (pv 3) pe_str (nomark _)) (pss_one (ps_expr (pe_bm PySem.F.plainAttrs_list PySem.F.slot_list_append PySem.F.type_list_append mt_append (pv 2) (pa_cons pe_int pa_nil)))) (pss_one (ps_if (pt_cmpR op_eq (pv 3) pe_str (nomark _)) (pss_one (ps_expr (pe_bm PySem.F.plainAttrs_list PySem.F.slot_list_append PySem.F.type_list_append mt_append (pv 2) (pa_cons (pe_dget (hu_of hr) (pv 1) (pv 4) (fun _ _ => rfl)) pa_nil)))) (pss_one (ps_if (pt_cmpR op_eq (pv 3) pe_str (nomark _)) (pss_cons (ps_expr (pe_bm0 PySem.F.plainAttrs_list PySem.F.slot_list_pop PySem.F.type_list_pop mt_pop (pv 2)))
      (pss_one (ps_expr (pe_bm PySem.F.plainAttrs_list PySem.F.slot_list_append PySem.F.type_list_append mt_append (pv 2) (pa_cons pe_int pa_nil))))) (pss_one (ps_if (pt_cmpR op_eq (pv 3) pe_str (nomark _)) (pss_one (ps_expr (pe_bm PySem.F.plainAttrs_list PySem.F.slot_list_append PySem.F.type_list_append mt_append (pv 2) (pa_cons (pe_op op_mulW (pe_bm0 PySem.F.plainAttrs_list PySem.F.slot_list_pop PySem.F.type_list_pop mt_pop (pv 2)) (pv 4)) pa_nil)))) (pss_one (ps_if (pt_cmpR op_in_seq (pv 3) (pe_tup (pa_cons pe_str (pa_cons pe_str pa_nil))) (by rfl)) (pss_cons (ps_set (i := 5) sc_tree_degree.nd rfl (Or.inl rfl) (pe_bm0 PySem.F.plainAttrs_list PySem.F.slot_list_pop PySem.F.type_list_pop mt_pop (pv 2)))
      (pss_one (ps_expr (pe_bm PySem.F.plainAttrs_list PySem.F.slot_list_append PySem.F.type_list_append mt_append (pv 2) (pa_cons (pe_callB (call_max2 rfl) (by rfl) T.n_max (by decide +kernel) (pa_cons (pe_callTy c_toInt (by rfl) T.n_int (by decide +kernel) (pa_cons (pe_bm0 PySem.F.plainAttrs_list PySem.F.slot_list_pop PySem.F.type_list_pop mt_pop (pv 2)) pa_nil)) (pa_cons (pe_callTy c_toInt (by rfl) T.n_int (by decide +kernel) (pa_cons (pv 5) pa_nil)) pa_nil))) pa_nil))))) (pss_one (ps_if (pt_cmpR op_in_seq (pv 3) (pe_tup (pa_cons pe_str (pa_cons pe_str pa_nil))) (by rfl)) (pss_cons (ps_set (i := 5) sc_tree_degree.nd rfl (Or.inl rfl) (pe_bm0 PySem.F.plainAttrs_list PySem.F.slot_list_pop PySem.F.type_list_pop mt_pop (pv 2)))
      (pss_one (ps_expr (pe_bm PySem.F.plainAttrs_list PySem.F.slot_list_append PySem.F.type_list_append mt_append (pv 2) (pa_cons (pe_op op_add (pe_bm0 PySem.F.plainAttrs_list PySem.F.slot_list_pop PySem.F.type_list_pop mt_pop (pv 2)) (pv 5)) pa_nil))))) pss_nil)))))))))))))
      (pss_one (ps_ret (pe_ix (ix_listK (K := K) rfl) (pv 2) pe_int (fun _ _ => rfl)))))), ?_⟩
    refine g_nil (GM.start ex) fun o ho g0 => ?_
    dsimp only
    refine g_for (K := Hk) (r := rStp) (e_c1 (e_var hv rfl) (by omega)) g0 (fun rest F M' σ' => ∃ (done : List Stp) (L : List Tr) (a b c : Option V), pst t = done ++ rest ∧ σ' = [some v, some (.ref d), some (.ref o), a, b, c] ∧ Ex Hk F ∧ Stk t rest L ∧ OnS (rDeg (dgf gf)) M' F o L)
      (fun F e => ⟨[], [], none, none, none, rfl, rfl, e, .start hd, ⟨[], upd_same, .nil⟩⟩) (fun l F F' M' σ' e ⟨dn, L, a, b, c, j, i1, i0, i2, i3⟩ => ⟨dn, L, a, b, c, j, i1, i0.trans e, i2, i3.up e⟩) ?_ ?_
    · rintro F0 e0 st rest sv F M' σ' H' ⟨dn, L, a, b, c, jj, rfl, i0, hk, hs⟩ g ef hst
      have jj2 : pst t = (dn ++ [st]) ++ rest := by rw [jj]; simp
      refine s_two hst g.f ?_
      dsimp only [List.set]
      have hL : L.length ≤ 10000 := by have := hk.len; omega
      have k0 : ∀ {F c}, E rV (tVar 3) [some v, some (.ref d), some (.ref o), some (.str (kw st)), some (thing st), c] F (.str (kw st)) := e_v rfl
      refine g_if ((t_test (e_eqV (b := "num") k0 e_sV)).as (kw_num _)) g (fun c1 H1 g1 => ?_) (fun c1 H1 g1 => ?_)
      · cases st with
        | num z =>
          refine g_stk (r := rDeg (dgf gf)) (u := .num z) (o_var rfl) hs hL g1 (fun H e Q q => (e_int (n := 0)) H e Q fun v H2 F g hv => q v H2 F g hv) fun H2 F2 M2 g2 e2 hs2 _ => ?_
          exact ⟨F2, M2, g2, ef.trans e2, _, _, _, _, _, jj2, rfl, i0.trans e2, hk.num.2, hs2⟩
        | _ => cases c1
      refine g_if ((t_test (e_eqV (b := "name") k0 e_sV)).as (kw_name _)) g1 (fun c2 H2 g2 => ?_) (fun c2 H2 g2 => ?_)
      · cases st with
        | name z =>
          obtain ⟨i, hi⟩ := hkn z (nms_pst t z (by rw [jj]; simp))
          refine g_stk (r := rDeg (dgf gf)) (u := .name z) (o_var rfl) hs hL g2 (fun H e Q q => ?_) fun H2 F2 M2 g2 e2 hs2 _ => ?_
          · refine ⟨_, rfl, _, rfl, d, .int i, rfl, .inl ⟨kvs, .inr (S z), .inl (e _ _ (i0 _ _ hd0)), rfl, by rw [hkv, hi]; rfl⟩, q _ H F (Grow.refl e) (by show V.int i = V.int (dgf gf z); unfold dgf; rw [hi]; rfl)⟩
          · exact ⟨F2, M2, g2, ef.trans e2, _, _, _, _, _, jj2, rfl, i0.trans e2, hk.name.2, hs2⟩
        | _ => cases c2
      refine g_if ((t_test (e_eqV (b := "call") k0 e_sV)).as (kw_call _)) g2 (fun c3 H3 g3 => ?_) (fun c3 H3 g3 => ?_)
      · cases st with
        | call z =>
          obtain ⟨hc, x, L, rfl, hu, hk2⟩ := hk.call
          refine g_pops (r := rDeg (dgf gf)) (o_var rfl) hs g3 fun pv H4 M4 hpv g4 hs4 _ => ?_
          refine g_stk (r := rDeg (dgf gf)) (u := .call z x) (o_var rfl) hs4 (by simp at hL; omega) g4 (fun H e Q q => (e_int (n := 1)) H e Q fun v H2 F g hv => q v H2 F g hv) fun H5 F5 M5 g5 e5 hs5 _ => ?_
          exact ⟨F5, M5, g5, ef.trans e5, _, _, _, _, _, jj2, rfl, i0.trans e5, hk2, hs5⟩
        | _ => cases c3
      refine g_if ((t_test (e_eqV (b := "pow") k0 e_sV)).as (kw_pow _)) g3 (fun c4 H4 g4 => ?_) (fun c4 H4 g4 => ?_)
      · cases st with
        | pow z =>
          obtain ⟨h9, x, L, rfl, hu, hk2⟩ := hk.pow
          have hzx := hk.mem List.mem_cons_self
          refine g_stkA (o_var rfl) ⟨_, hs.choose_spec.1⟩ g4 ?_
          refine g_pops (r := rDeg (dgf gf)) (o_var rfl) hs g4 fun pv H5 M5 hpv g5 hs5 _ => ?_
          cases hpv
          refine ⟨_, rfl, _, _, rfl, rfl, mul_small hsm' hu (by omega) h9, ?_⟩
          refine g_pushS (r := rDeg (dgf gf)) (u := .pow x z) hs5 (by simp at hL; omega) g5 rfl fun H6 M6 g6 hs6 _ => ?_
          exact ⟨_, M6, g6, ef, _, _, _, _, _, jj2, rfl, i0, hk2, hs6⟩
        | _ => cases c4
      refine g_if ((t_test (e_inV2 (x := "add") (y := "sub") k0)).as (kw_low _)) g4 (fun c5 H5 g5 => ?_) (fun c5 H5 g5 => ?_)
      · cases st with
        | op q2 =>
          obtain ⟨rr, ll, L, rfl, hul, hur, hk2⟩ := hk.op
          refine g_pops (r := rDeg (dgf gf)) (o_var rfl) hs g5 fun rv H6 M6 hrv g6 hs6 _ => ?_
          cases hrv
          dsimp only [List.set]
          refine g_stkA (o_var rfl) ⟨_, hs6.choose_spec.1⟩ g6 ?_
          refine g_pops (r := rDeg (dgf gf)) (o_var rfl) hs6 g6 fun lv H7 M7 hlv g7 hs7 _ => ?_
          cases hlv
          refine .inl ⟨_, rfl, _, rfl, .inl ⟨_, rfl, _, _, rfl, ?_⟩⟩
          refine g_pushS (r := rDeg (dgf gf)) (u := .op q2 ll rr) hs7 (by simp at hL; omega) g7 (by
            show V.int _ = V.int _
            rw [deg, if_pos (show q2.low = true from c5)]
            congr 1
            split <;> split <;> omega) fun H8 M8 g8 hs8 _ => ?_
          exact ⟨_, M8, g8, ef, _, _, _, _, _, jj2, rfl, i0, hk2, hs8⟩
        | _ => cases c5
      refine g_if ((t_test (e_inV2 (x := "mul") (y := "div") k0)).as (kw_high _)) g5 (fun c6 H6 g6 => ?_) (fun c6 H6 g6 => ?_)
      · cases st with
        | op q2 =>
          obtain ⟨rr, ll, L, rfl, hul, hur, hk2⟩ := hk.op
          refine g_pops (r := rDeg (dgf gf)) (o_var rfl) hs g6 fun rv H7 M7 hrv g7 hs7 _ => ?_
          cases hrv
          dsimp only [List.set]
          refine g_stkA (o_var rfl) ⟨_, hs7.choose_spec.1⟩ g7 ?_
          refine g_pops (r := rDeg (dgf gf)) (o_var rfl) hs7 g7 fun lv H8 M8 hlv g8 hs8 _ => ?_
          cases hlv
          refine ⟨_, rfl, _, _, rfl, rfl, ?_⟩
          refine g_pushS (r := rDeg (dgf gf)) (u := .op q2 ll rr) hs8 (by simp at hL; omega) g8 (by
            show V.int _ = V.int _
            rw [deg, if_neg (by rw [show q2.low = false from c5]; decide)]) fun H9 M9 g9 hs9 _ => ?_
          exact ⟨_, M9, g9, ef, _, _, _, _, _, jj2, rfl, i0, hk2, hs9⟩
        | _ => cases c6
      · cases st with
        | neg =>
          obtain ⟨x, L, rfl, hu, hk2⟩ := hk.neg
          refine ⟨F, M', g6, ef, _, _, _, _, _, jj2, rfl, i0, hk2, ?_⟩
          obtain ⟨vs, h1, h2⟩ := hs
          refine ⟨vs, h1, ?_⟩
          rw [List.reverse_cons] at h2 ⊢
          obtain ⟨ws, v', e1, h3, h4⟩ := p_snoc h2
          rw [e1]
          exact p_app h3 (.cons h4 .nil)
        | num z => cases c1
        | name z => cases c2
        | call z => cases c3
        | pow z => cases c4
        | op q => exfalso; revert c5 c6; cases q <;> exact fun a b => by cases a <;> cases b
    · rintro F M' σ' H' ⟨dn, L, a, b, c, jj, rfl, i0, hk, hs⟩ g ef
      have := hk.done
      subst this
      obtain ⟨vs, h1, h2⟩ := hs
      cases h2 with
      | cons hp t2 =>
        cases t2
        exact ⟨.ref o, rfl, o, _, 0, _, rfl, rfl, sq_of (g.m _ _ h1), rfl, q _ _ _ g.done hp⟩
end
end F1

set_option Elab.async false
set_option linter.all false
set_option autoImplicit false
set_option maxRecDepth 100000
set_option maxHeartbeats 4000000
/-! # The law's degrees; names, calls, figures -/
namespace F1
open PySem L2 Y
open Pl hiding Sp Ss PA PB RA RW RP RS
def rD0 : Rp Int := fun H v x => ∃ h, rTv H v [.int x, .int h]
instance : Mono rD0 := ⟨fun e ⟨h, h1⟩ => ⟨h, up (r := rTv) e h1⟩⟩
theorem int_dig {d : Nat} (h : d ≤ 9) : intText? (S [48 + d]) = some (d : Int) := by
  have : d = 0 ∨ d = 1 ∨ d = 2 ∨ d = 3 ∨ d = 4 ∨ d = 5 ∨ d = 6 ∨ d = 7 ∨ d = 8 ∨ d = 9 := by omega
  rcases this with rfl | rfl | rfl | rfl | rfl | rfl | rfl | rfl | rfl | rfl <;> decide +kernel
def nmOf : Stp → Option W | .name s => some s | _ => none
theorem nms_fm : ∀ t : Tr, (pst t).filterMap nmOf = nms t
  | .num s => rfl
  | .name s => rfl
  | .call s t => by rw [pst, List.filterMap_append, nms_fm t]; simp [nmOf, nms]
  | .neg t => by rw [pst, List.filterMap_append, nms_fm t]; simp [nmOf, nms]
  | .pow t d => by rw [pst, List.filterMap_append, nms_fm t]; simp [nmOf, nms]
  | .op o l r => by rw [pst, List.filterMap_append, List.filterMap_append, nms_fm l, nms_fm r]; simp [nmOf, nms]
theorem once_snoc : ∀ (a acc : List W) (x : W), onceGo acc (a ++ [x]) = (let l := onceGo acc a; if x ∈ l then l else l ++ [x])
  | [], acc, x => rfl
  | y :: a, acc, x => by
    rw [List.cons_append]
    show onceGo _ (a ++ [x]) = _
    rw [once_snoc a]; rfl
theorem once_len : ∀ (a acc : List W), (onceGo acc a).length ≤ acc.length + a.length
  | [], acc => Nat.le_refl _
  | y :: a, acc => by
    show (onceGo _ a).length ≤ _
    have h1 := once_len a (if y ∈ acc then acc else acc ++ [y])
    have h2 : (if y ∈ acc then acc else acc ++ [y]).length ≤ acc.length + 1 := by
      split
      · omega
      · simp
    rw [List.length_cons]; omega
def dkv (l : List W) : List (L2.Key × V) := l.map fun s => ((.inr (S s) : L2.Key), V.bl true)
theorem dkv_any (l : List W) (x : W) : ((dkv l).any fun kv => decide (kv.1 = .inr (S x))) = decide (x ∈ l) := by
  rw [Bool.eq_iff_iff, List.any_eq_true, decide_eq_true_eq]
  unfold dkv
  constructor
  · rintro ⟨kv, h1, h2⟩
    obtain ⟨s, hs, rfl⟩ := List.mem_map.mp h1
    have := Sum.inr.inj (of_decide_eq_true h2)
    rw [S_inj] at this
    rw [← this]; exact hs
  · intro h
    exact ⟨_, List.mem_map.mpr ⟨x, h, rfl⟩, by simp⟩
theorem dkv_put (l : List W) (x : W) : putK (dkv l) (.inr (S x)) (V.bl true) = dkv (if x ∈ l then l else l ++ [x]) := by
  unfold putK
  rw [dkv_any]
  by_cases h : x ∈ l
  · rw [decide_eq_true h, if_pos rfl, if_pos h]
    unfold dkv
    rw [List.map_map]
    apply List.map_congr_left
    intro s hs
    show (if _ then _ else _) = _
    split <;> rfl
  · rw [decide_eq_false h, if_neg (by simp), if_neg h]
    unfold dkv
    simp
section
variable {P : Program} {w : World} {K : PySem.W.Frag} {mg : Str → Option Value} {base : Heap}
section
variable {α β : Type} {r : Rp α} {s : Rp β} {σ : L2.St} {Hk : Hp} {ta te tl : TE} {tt : TT}
theorem rng_filterL {ys : List β} [Inhabited β] (p : β → Bool) (f : β → α) : ((List.range ys.length).filter fun i => p (ys.getD i default)).map (fun i => f (ys.getD i default)) = (ys.filter p).map f := by
  have e : ys = (List.range ys.length).map fun i => ys.getD i default := by
    apply List.ext_getElem (by simp)
    intro i h1 h2
    simp [h1]
  conv => rhs; rw [e]
  rw [List.filter_map, List.map_map]
  rfl
/-- [f y for y in ys if p y] -/
theorem en_lcF {j : Nat} {vs : List Nat} {ys : List β} [Mono r] [Mono s] [Inhabited β] (p : β → Bool) (f : β → α) (h : E (rLst s) tl σ Hk ys) (hn : ys.length ≤ 100000) (hw : ∀ v, wipe ((wipe σ vs).set j (some v)) vs = wipe σ vs)
    (hs : ∀ y v F, y ∈ ys → Ex Hk F → s F v y → Y.T tt ((wipe σ vs).set j (some v)) F (p y) ∧ (p y = true → E r te ((wipe σ vs).set j (some v)) F (f y))) : EN r (tLc (iList K tl) (gName j) tt te vs) σ Hk ((ys.filter p).map f) :=
  (en_lc (p := fun i => p (ys.getD i default)) (f := fun i => f (ys.getD i default)) (it_list (Kf := K) h) hn fun i v F hi e ⟨y, hy, hv⟩ => by
    have e1 : ys.getD i default = y := by rw [List.getD_eq_getElem?_getD, hy]; rfl
    rw [e1]
    have := hs y v F (List.mem_of_getElem? hy) e hv
    exact ⟨_, tg_name, hw v, this.1, this.2⟩).as (rng_filterL p f)
end
instance : Inhabited Stp := ⟨.neg⟩
instance : Inhabited Tr := ⟨.num []⟩
theorem ok__law_degrees (T : Txt w K mg) : FnOk P w K mg base CX0 2 T.d__law_degrees.a T.d__law_degrees.fd ["formula", "known"] (sp2 rF rDg rD0 (fun t g => preT t ∧ knows g t) fun t g => deg (dgf g) t) := by
  refine T.d__law_degrees.F.ok sc__law_degrees (fun vs H Q Ew h => ?_) (fun cdv A outer s H vs Q Ew hr h => ?_)
  · obtain ⟨_, _, v, x, v2, y, rfl, _⟩ := h; rfl
  · obtain ⟨Hk, ex, v, t, v2, gf, rfl, hv, ⟨d, kvs, rfl, hd0, hkv⟩, ⟨⟨hd, hz⟩, hkn, hsm, hfg⟩, q⟩ := h
    have hsm' := dgf_small hsm
    refine ⟨_, (pss_cons (ps_set (i := 2) sc__law_degrees.nd rfl (Or.inl rfl) (pe_lst pa_nil))
      (pss_cons (ps_set (i := 3) sc__law_degrees.nd rfl (Or.inl rfl) pe_int)
      (pss_cons (ps_for PassesOwn.never rfl (pi_list (pv 0)) (pg_name (i := 4) sc__law_degrees.nd rfl (Or.inl rfl) (hf := Or.inr rfl))
      (pss_one (ps_if (pt_cmpR op_in_seq (pv 4) (pe_tup (pa_cons pe_str (pa_cons pe_str (pa_cons pe_str (pa_cons pe_str pa_nil))))) (by rfl)) (pss_cons (ps_set (i := 5) sc__law_degrees.nd rfl (Or.inl rfl) (pe_bm0 PySem.F.plainAttrs_list PySem.F.slot_list_pop PySem.F.type_list_pop mt_pop (pv 2)))
      (pss_cons (ps_set (i := 6) sc__law_degrees.nd rfl (Or.inl rfl) (pe_bm0 PySem.F.plainAttrs_list PySem.F.slot_list_pop PySem.F.type_list_pop mt_pop (pv 2)))
      (pss_one (ps_expr (pe_bm PySem.F.plainAttrs_list PySem.F.slot_list_append PySem.F.type_list_append mt_append (pv 2) (pa_cons (pe_ifExp (pt_cmpR op_in_seq (pv 4) (pe_tup (pa_cons pe_str (pa_cons pe_str pa_nil))) (by rfl)) (pe_op op_add (pv 6) (pv 5)) (pe_ifExp (pt_cmpR op_gt (pv 6) (pv 5) (nomark _)) (pv 6) (pv 5))) pa_nil)))))) (pss_one (ps_if (pt_cmpR op_eq (pe_ix ix_str (pv 4) pe_int (fun _ _ => rfl)) pe_str (nomark _)) (pss_one (ps_expr (pe_bm PySem.F.plainAttrs_list PySem.F.slot_list_append PySem.F.type_list_append mt_append (pv 2) (pa_cons (pe_op op_mulW (pe_bm0 PySem.F.plainAttrs_list PySem.F.slot_list_pop PySem.F.type_list_pop mt_pop (pv 2)) (pe_callTy call_int_str (by rfl) T.n_int (by decide +kernel) (pa_cons (pe_slice sl_str (pv 4) (po_some pe_int) po_none) pa_nil))) pa_nil)))) (pss_one (ps_if (pt_val (pe_call (ok__law_is_call T) (hr.mono (by decide)) (by rfl) T.g__law_is_call T.d__law_is_call.F.kp T.d__law_is_call.b .nil pass0 (pa_cons (pv 4) pa_nil))) (pss_cons (ps_set (i := 6) sc__law_degrees.nd rfl (Or.inl rfl) (pe_bm0 PySem.F.plainAttrs_list PySem.F.slot_list_pop PySem.F.type_list_pop mt_pop (pv 2)))
      (pss_cons (ps_set (i := 3) sc__law_degrees.nd rfl (Or.inl rfl) (pe_ifExp (pt_cmpR op_gt (pv 6) (pv 3) (nomark _)) (pv 6) (pv 3)))
      (pss_one (ps_expr (pe_bm PySem.F.plainAttrs_list PySem.F.slot_list_append PySem.F.type_list_append mt_append (pv 2) (pa_cons pe_int pa_nil)))))) (pss_one (ps_if (pt_cmpR op_ne (pv 4) pe_str (nomark _)) (pss_one (ps_expr (pe_bm PySem.F.plainAttrs_list PySem.F.slot_list_append PySem.F.type_list_append mt_append (pv 2) (pa_cons (pe_dget2 (hu_of hr) (pv 1) (pv 4) pe_int ⟨rfl, rfl, rfl, rfl⟩) pa_nil)))) pss_nil)))))))))
      (pss_one (ps_ret (pe_tup (pa_cons (pe_ix (ix_listK (K := K) rfl) (pv 2) pe_int (fun _ _ => rfl)) (pa_cons (pv 3) pa_nil)))))))), ?_⟩
    refine g_nil (GM.start ex) fun o ho g0 => ?_
    dsimp only
    refine g_set (r := rInt) (x := 0) e_int g0 fun v0 H1 F1 g1 e1 hv0 => ?_
    cases hv0
    dsimp only [List.set, L2.start]
    refine g_for (K := F1) (r := rWd) (e_F (e_var (up (r := rF) e1 hv) rfl)) g1 (fun rest F M' σ' => ∃ (done : List Stp) (L : List Tr) (hh : Int) (a b c : Option V), pst t = done ++ rest ∧ σ' = [some v, some (.ref d), some (.ref o), some (.int hh), a, b, c] ∧ Ex Hk F ∧ Stk t rest L ∧ OnS (rDeg (dgf gf)) M' F o L)
      (fun F e => ⟨[], [], 0, none, none, none, rfl, rfl, e1.trans e, .start hd, ⟨[], upd_same, .nil⟩⟩) (fun l F F' M' σ' e ⟨dn, L, hh, a, b, c, j, i1, i0, i2, i3⟩ => ⟨dn, L, hh, a, b, c, j, i1, i0.trans e, i2, i3.up e⟩) ?_ ?_
    · rintro F0 e0 st rest sv F M' σ' H' ⟨dn, L, hh, a, b, c, jj, rfl, i0, hk, hs⟩ g ef hst
      cases hst
      show tIfS _ _ _ _ _ _
      dsimp only [List.set]
      have jj2 : pst t = (dn ++ [st]) ++ rest := by rw [jj]; simp
      have hL : L.length ≤ 10000 := by have := hk.len; omega
      have hos := hk.os st List.mem_cons_self
      have hwl := w_len hos
      have k0 : ∀ {F h b c}, E rW (tVar 4) [some v, some (.ref d), some (.ref o), h, some (.str (S st.w)), b, c] F st.w := e_var rfl rfl
      refine g_if ((t_test (e_inT (l := [[43], [45], [42], [47]]) k0 (ea_w (e_w rfl) (ea_w (e_w rfl) (ea_w (e_w rfl) (ea_w (e_w rfl) ea_w0)))) (by decide))).as (w_opr hos.1)) g (fun c1 H1 g1 => ?_) (fun c1 H1 g1 => ?_)
      · cases st with
        | op q2 =>
          obtain ⟨rr, ll, L, rfl, hul, hur, hk2⟩ := hk.op
          refine g_pops (r := rDeg (dgf gf)) (o_var rfl) hs g1 fun rv H6 M6 hrv g6 hs6 _ => ?_
          cases hrv
          dsimp only [List.set]
          refine g_pops (r := rDeg (dgf gf)) (o_var rfl) hs6 g6 fun lv H7 M7 hlv g7 hs7 _ => ?_
          cases hlv
          dsimp only [List.set]
          refine g_stk (r := rDeg (dgf gf)) (u := .op q2 ll rr) (o_var rfl) hs7 (by simp at hL; omega) g7 (fun H e Q q => (e_if (r := rInt) (x := deg (dgf gf) (.op q2 ll rr)) ((t_test (e_inT (l := [[42], [47]]) (e_var (r := rW) (x := [q2.c]) rfl rfl) (ea_w (e_w rfl) (ea_w (e_w rfl) ea_w0)) (by decide))).as (show _ = !q2.low by cases q2 <;> decide)) (fun c5 => ?_) (fun c5 => ?_)) H e Q fun v H2 F g hv => q v H2 F g hv) fun H8 F8 M8 g8 e8 hs8 _ => ?_
          · refine (e_i0 (f := fun i j => i + j) (e_var (x := deg (dgf gf) ll) rfl rfl) (e_var (x := deg (dgf gf) rr) rfl rfl)).as ?_
            rw [deg, if_neg (by rw [Bool.not_eq_true'] at c5; rw [c5]; decide)]
          · have c5 : q2.low = true := by simpa using c5
            refine (e_if (x := if deg (dgf gf) ll > deg (dgf gf) rr then deg (dgf gf) ll else deg (dgf gf) rr) (t_test (e_b0 (p := fun i j => decide (i > j)) (e_var (x := deg (dgf gf) ll) rfl rfl) (e_var (x := deg (dgf gf) rr) rfl rfl))) (fun c6 => ?_) (fun c6 => ?_)).as ?_
            · rw [if_pos (of_decide_eq_true c6)]; exact e_var rfl rfl
            · rw [if_neg (of_decide_eq_false c6)]; exact e_var rfl rfl
            · rw [deg, if_pos c5]
          · exact ⟨F8, M8, g8, ef.trans e8, _, _, _, _, _, _, jj2, rfl, i0.trans e8, hk2, hs8⟩
        | _ => cases c1
      obtain ⟨c0, r0, hw0, hp0⟩ := w_hd hos.1
      refine g_if (b := tPow st) (t_test ((e_eqW (a := [c0]) (b := [94]) (e_atW (k := 0) k0 e_int (Int.le_refl _) (by rw [hw0]; rfl) (by omega)) (e_w rfl)).as (by rw [← hp0]; simp))) g1 (fun c3 H3 g3 => ?_) (fun c3 H3 g3 => ?_)
      · cases st with
        | pow z =>
          obtain ⟨h9, x, L, rfl, hu, hk2⟩ := hk.pow
          have hzx := hk.mem List.mem_cons_self
          refine g_stkA (o_var rfl) ⟨_, hs.choose_spec.1⟩ g3 ?_
          refine g_pops (r := rDeg (dgf gf)) (o_var rfl) hs g3 fun pv H5 M5 hpv g5 hs5 _ => ?_
          cases hpv
          have esl : E rW (tSl rSlS (tVar 4) (tPart (tC (.int 1))) tNoPart) [some v, some (.ref d), some (.ref o), some (.int hh), some (.str (S (Stp.pow z).w)), b, c] F [48 + z] := (e_sliceW (x := [94, 48 + z]) (lo := some ((1 : Nat) : Int)) (hi := none) (e_var rfl rfl) (eo_some e_int) eo_none (by simp)).as (by rw [cutL_from]; rfl)
          show tSl rSlS (tVar 4) (tPart (tC (.int 1))) tNoPart _ _ _
          refine g_e esl g5 fun sl H6 F6 g6 e6 hsl => ?_
          cases hsl
          refine ⟨_, _, rfl, int_dig h9, by rw [S_len]; simp, ?_⟩
          refine ⟨_, _, rfl, rfl, mul_small hsm' hu (by omega) h9, ?_⟩
          refine g_pushS (r := rDeg (dgf gf)) (u := .pow x z) (hs5.up e6) (by simp at hL; omega) g6 rfl fun H7 M7 g7 hs7 _ => ?_
          exact ⟨_, M7, g7, ef.trans e6, _, _, _, _, _, _, jj2, rfl, i0.trans e6, hk2, hs7⟩
        | _ => cases c3
      refine g_if (t_b ((e_isCall T k0).as (w_call hos.1))) g3 (fun c4 H4 g4 => ?_) (fun c4 H4 g4 => ?_)
      · cases st with
        | call z =>
          obtain ⟨hc, x, L, rfl, hu, hk2⟩ := hk.call
          refine g_pops (r := rDeg (dgf gf)) (o_var rfl) hs g4 fun pv H5 M5 hpv g5 hs5 _ => ?_
          cases hpv
          dsimp only [List.set]
          refine g_set (r := rInt) (x := if deg (dgf gf) x > hh then deg (dgf gf) x else hh) (e_if (b := decide (deg (dgf gf) x > hh)) (t_test (e_b0 (p := fun i j => decide (i > j)) (e_var (x := deg (dgf gf) x) rfl rfl) (e_var (x := hh) rfl rfl))) (fun c6 => ?_) (fun c6 => ?_)) g5 fun v6 H6 F6 g6 e6 hv6 => ?_
          · rw [if_pos (of_decide_eq_true c6)]; exact e_var rfl rfl
          · rw [if_neg (of_decide_eq_false c6)]; exact e_var rfl rfl
          cases hv6
          dsimp only [List.set]
          refine g_stk (r := rDeg (dgf gf)) (u := .call z x) (o_var rfl) (hs5.up e6) (by simp at hL; omega) g6 (fun H e Q q => (e_int (n := 1)) H e Q fun v H2 F g hv => q v H2 F g hv) fun H7 F7 M7 g7 e7 hs7 _ => ?_
          exact ⟨F7, M7, g7, (ef.trans e6).trans e7, _, _, _, _, _, _, jj2, rfl, (i0.trans e6).trans e7, hk2, hs7⟩
        | _ => cases c4
      refine g_if (b := !tNeg st) (t_test ((e_neW (b := [126]) k0 (e_w rfl)).as (by rw [w_neg hos.1]))) g4 (fun c5 H5 g5 => ?_) (fun c5 H5 g5 => ?_)
      · have get : ∀ (z : W), st.w = z → tDrop (tBM K "list" rAppend (tVar 2) (tCons (tDGet2 (tVar 1) (tVar 4) (tC (.int 0))) tNil)) = tDrop (tBM K "list" rAppend (tVar 2) (tCons (tDGet2 (tVar 1) (tVar 4) (tC (.int 0))) tNil)) := fun _ _ => rfl
        cases st with
        | num z =>
          have hz0 := hk.num.1.1
          refine g_stk (r := rDeg (dgf gf)) (u := .num z) (o_var rfl) hs hL g5 (fun H e Q q => ?_) fun H6 F6 M6 g6 e6 hs6 _ => ?_
          · exact ⟨_, rfl, d, rfl, .inl ⟨_, .inl (e _ _ (i0 _ _ hd0))⟩, _, rfl, none, .inl ⟨kvs, .inr (S z), .inl (e _ _ (i0 _ _ hd0)), rfl, by rw [hkv, hfg z hz0]; rfl⟩, q _ H F (Grow.refl e) rfl⟩
          · exact ⟨F6, M6, g6, ef.trans e6, _, _, _, _, _, _, jj2, rfl, i0.trans e6, hk.num.2, hs6⟩
        | name z =>
          obtain ⟨i, hi⟩ := hkn z (nms_pst t z (by rw [jj]; simp))
          refine g_stk (r := rDeg (dgf gf)) (u := .name z) (o_var rfl) hs hL g5 (fun H e Q q => ?_) fun H6 F6 M6 g6 e6 hs6 _ => ?_
          · exact ⟨_, rfl, d, rfl, .inl ⟨_, .inl (e _ _ (i0 _ _ hd0))⟩, _, rfl, some (.int i), .inl ⟨kvs, .inr (S z), .inl (e _ _ (i0 _ _ hd0)), rfl, by rw [hkv, hi]; rfl⟩, q _ H F (Grow.refl e) (by show V.int i = V.int (dgf gf z); unfold dgf; rw [hi]; rfl)⟩
          · exact ⟨F6, M6, g6, ef.trans e6, _, _, _, _, _, _, jj2, rfl, i0.trans e6, hk.name.2, hs6⟩
        | neg => cases c5
        | call z => cases c4
        | pow z => cases c3
        | op q => cases c1
      · cases st with
        | neg =>
          obtain ⟨x, L, rfl, hu, hk2⟩ := hk.neg
          refine ⟨F, M', g5, ef, _, _, _, _, _, _, jj2, rfl, i0, hk2, ?_⟩
          obtain ⟨vs, h1, h2⟩ := hs
          refine ⟨vs, h1, ?_⟩
          rw [List.reverse_cons] at h2 ⊢
          obtain ⟨ws, v', e1, h3, h4⟩ := p_snoc h2
          rw [e1]
          exact p_app h3 (.cons h4 .nil)
        | _ => cases c5
    · rintro F M' σ' H' ⟨dn, L, hh, a, b, c, jj, rfl, i0, hk, hs⟩ g ef
      have := hk.done
      subst this
      obtain ⟨vs, h1, h2⟩ := hs
      cases h2 with
      | cons hp t2 =>
        cases t2
        cases hp
        refine ⟨.ref o, rfl, o, _, 0, _, rfl, rfl, sq_of (g.m _ _ h1), rfl, ?_⟩
        refine ⟨_, rfl, two_le, fun p hp => ?_⟩
        have g2 := g.newk (u := .tup [.int (deg (dgf gf) t), .int hh]) hp
        exact q _ _ _ g2.done ⟨hh, p, rfl, upd_same⟩
theorem ok__law_once (T : Txt w K mg) : FnOk P w K mg base CX0 1 T.d__law_once.a T.d__law_once.fd ["names"] (sp1 (rLst rW) (rLst rW) (fun l => l.length ≤ 10000) (onceGo [])) := by
  refine T.d__law_once.F.ok sc__law_once (fun vs H Q Ew h => ?_) (fun cdv A outer s H vs Q Ew hr h => ?_)
  · obtain ⟨_, _, v, x, rfl, _⟩ := h; rfl
  · obtain ⟨Hk, ex, v, l, rfl, hv, hz, q⟩ := h
    refine ⟨_, (pss_cons (ps_set (i := 1) sc__law_once.nd rfl (Or.inl rfl) (pe_lst pa_nil))
      (pss_cons (ps_for PassesOwn.never rfl (pi_list (pv 0)) (pg_name (i := 2) sc__law_once.nd rfl (Or.inl rfl) (hf := Or.inr rfl))
      (pss_one (ps_if (pt_cmpR op_notIn_seq (pv 2) (pv 1) (by rfl)) (pss_one (ps_expr (pe_bm PySem.F.plainAttrs_list PySem.F.slot_list_append PySem.F.type_list_append mt_append (pv 1) (pa_cons (pv 2) pa_nil)))) pss_nil)))
      (pss_one (ps_ret (pv 1))))), ?_⟩
    refine g_nil (GM.start ex) fun o ho g0 => ?_
    dsimp only
    refine g_for (K := Hk) (r := rW) (e_var hv rfl) g0 (fun rest F M' σ' => ∃ (done : List W) (a : Option V), l = done ++ rest ∧ σ' = [some v, some (.ref o), a] ∧ M' o = some (.lst (lw (onceGo [] done))))
      (fun F e => ⟨[], none, rfl, rfl, upd_same⟩) (fun l F F' M' σ' e h => h) ?_ ?_
    · rintro F0 e0 x rest sv F M' σ' H' ⟨done, a, jj, rfl, hm⟩ g ef hx
      cases hx
      show tIfS _ _ _ _ _ _
      dsimp only [List.set]
      have hl := once_len done []
      have hd : done.length ≤ l.length := by rw [jj]; simp
      refine g_if (b := !decide (x ∈ onceGo [] done)) (t_test (e_niL (l := onceGo [] done) (e_var rfl rfl) (fun H e Q q => (⟨.ref o, rfl, q (.ref o) H _ (Grow.refl e) ⟨o, _, rfl, g.jr hm, of_ws _⟩⟩ : tVar 1 _ _ _)))) g (fun c H1 g1 => ?_) (fun c H1 g1 => ?_)
      · have c : x ∉ onceGo [] done := by simpa using c
        refine g_appE (us := lw (onceGo [] done)) (o_var rfl) hm g1 (by simp at hl ⊢; omega) (e_var (r := rW) (x := x) rfl rfl) fun v2 H2 F2 g2 e2 hv2 => ?_
        cases hv2
        refine ⟨F2, _, g2, ef.trans e2, done ++ [x], _, by rw [jj]; simp, rfl, ?_⟩
        rw [upd_same, once_snoc]
        dsimp only
        rw [if_neg c]
        simp [lw]
      · have c : x ∈ onceGo [] done := by simpa using c
        refine ⟨F, M', g1, ef, done ++ [x], _, by rw [jj]; simp, rfl, ?_⟩
        rw [hm, once_snoc]
        dsimp only
        rw [if_pos c]
    · rintro F M' σ' H' ⟨done, a, jj, rfl, hm⟩ g ef
      rw [List.append_nil] at jj
      subst jj
      obtain ⟨F2, gF, hF⟩ := give_lst g hm ho
      exact ⟨.ref o, rfl, q (.ref o) H' F2 gF hF⟩
theorem ok_met_names (T : Txt w K mg) : FnOk P w K mg base CX0 3 T.d_met_names.a T.d_met_names.fd ["tree"] (sp1 rTr (rTup rW) (fun t => size t ≤ 10000) names) := by
  refine T.d_met_names.F.ok sc_met_names (fun vs H Q Ew h => ?_) (fun cdv A outer s H vs Q Ew hr h => ?_)
  · obtain ⟨_, _, v, x, rfl, _⟩ := h; rfl
  · obtain ⟨Hk, ex, v, t, rfl, hv, hz, q⟩ := h
    refine ⟨_, (pss_cons (ps_set (i := 1) sc_met_names.nd rfl (Or.inl rfl) pe_dnewK)
      (pss_cons (ps_for PassesOwn.never rfl (pi_list (pe_call (ok_postfix T) (hr.mono (by decide)) (by rfl) T.g_postfix T.d_postfix.F.kp T.d_postfix.b .nil pass0 (pa_cons (pv 0) pa_nil))) (pg_tup rfl (pgs_cons (pg_name (i := 2) sc_met_names.nd rfl (Or.inl rfl) (hf := Or.inr rfl)) (pgs_cons (pg_name (i := 3) sc_met_names.nd rfl (Or.inl rfl) (hf := Or.inr rfl)) pgs_nil)))
      (pss_one (ps_if (pt_cmpR op_eq (pv 2) pe_str (nomark _)) (pss_one (ps_dput (hu_of hr) (pv 1) (pv 3) pe_bl rfl)) pss_nil)))
      (pss_one (ps_ret (pe_callTy (call_tupD rfl) (by rfl) T.n_tuple (by decide +kernel) (pa_cons (pv 1) pa_nil)))))), ?_⟩
    intro o ho
    have g0 := (GM.start ex).new (u := .dK []) ho
    dsimp only
    show tFor _ _ _ _ _ _
    dsimp only [List.set, L2.start]
    refine g_for (K := Hk) (r := rStp) (e_c1 (e_var hv rfl) hz) g0 (fun rest F M' σ' => ∃ (done : List Stp) (a b : Option V), pst t = done ++ rest ∧ σ' = [some v, some (.ref o), a, b] ∧ M' o = some (.dK (dkv (onceGo [] (done.filterMap nmOf)))))
      (fun F e => ⟨[], none, none, rfl, rfl, upd_same⟩) (fun l F F' M' σ' e h => h) ?_ ?_
    · rintro F0 e0 st rest sv F M' σ' H' ⟨done, a, b, jj, rfl, hm⟩ g ef hst
      refine s_two hst g.f ?_
      dsimp only [List.set]
      have hl := once_len (done.filterMap nmOf) []
      have hd : (done.filterMap nmOf).length ≤ size t := by
        have h1 := List.length_filterMap_le nmOf done
        have h2 := congrArg List.length jj
        have h3 := (size_nodes t).1
        unfold nodes at h3
        simp at h2
        omega
      refine g_if ((t_test (e_eqV (b := "name") (e_v rfl) e_sV)).as (kw_name _)) g (fun c H1 g1 => ?_) (fun c H1 g1 => ?_)
      · cases st with
        | name z =>
          refine ⟨_, rfl, _, rfl, o, _, rfl, .inl ⟨_, .inr (S z), g1.m _ _ hm, rfl, sz_lt (by unfold dkv; rw [List.length_map]; simp at hl; omega), rfl⟩, ?_⟩
          rw [dkv_put]
          refine ⟨F, _, g1.upd hm, ef, done ++ [.name z], some (.str (kw (.name z))), some (thing (.name z)), by rw [jj]; simp, rfl, ?_⟩
          rw [upd_same, List.filterMap_append]
          show _ = some (HO.dK (dkv (onceGo [] (List.filterMap nmOf done ++ [z]))))
          rw [once_snoc]
        | _ => cases c
      · refine ⟨F, M', g1, ef, done ++ [st], _, _, by rw [jj]; simp, rfl, ?_⟩
        have h0 : List.filterMap nmOf [st] = [] := by
          cases st with
          | name z => cases c
          | _ => rfl
        rw [hm, List.filterMap_append, h0, List.append_nil]
    · rintro F M' σ' H' ⟨done, a, b, jj, rfl, hm⟩ g ef
      rw [List.append_nil] at jj
      subst jj
      rw [nms_fm] at hm
      refine ⟨_, rfl, o, _, rfl, g.m _ _ hm, fun p hp => ?_⟩
      have g2 := g.newk (u := .tup ((dkv (onceGo [] (nms t))).map fun kv => kV kv.1)) hp
      refine q _ _ _ g2.done ⟨p, _, rfl, upd_same, ?_⟩
      have : (dkv (onceGo [] (nms t))).map (fun kv => kV kv.1) = lw (names t) := by
        unfold dkv names lw
        rw [List.map_map]; rfl
      rw [this]
      exact of_ws _
theorem filt_names {t : Tr} (h : ok t) : ((pst t).filter tName).map Stp.w = nms t := by
  rw [← nms_fm]
  have : ∀ l : List Stp, (l.filter tName).map Stp.w = l.filterMap nmOf := by
    intro l
    induction l with
    | nil => rfl
    | cons s l ih =>
      cases s with
      | name z => show z :: _ = z :: _; rw [← ih]
      | _ => exact ih
  exact this _
theorem ok__law_names (T : Txt w K mg) : FnOk P w K mg base CX0 2 T.d__law_names.a T.d__law_names.fd ["formula"] (sp1 rF (rLst rW) preT nms) := by
  refine T.d__law_names.F.ok sc__law_names (fun vs H Q Ew h => ?_) (fun cdv A outer s H vs Q Ew hr h => ?_)
  · obtain ⟨_, _, v, x, rfl, _⟩ := h; rfl
  · obtain ⟨Hk, ex, v, t, rfl, hv, ⟨hd, hz⟩, q⟩ := h
    refine ⟨_, (pss_one (ps_ret (pe_lc (own := [("word", 1)]) (g := gName 1) rfl sc__law_names.nd (pi_list (pv 0)) (blkOk_by (N := ["formula", "word"]) (sc := defScope s__law_names) (by decide +kernel)) (fun _ _ _ _ _ => (pg_name (i := 1) sc__law_names.nd rfl (Or.inl rfl) (hf := Or.inr rfl))) (fun _ _ _ _ _ => (pts_one (PW.pt (pw_and (pt_cmpR op_in_sign (pe_ix ix_str (pv 1) pe_int (fun _ _ => rfl)) pe_str (by rfl)) (pw_and1 (pt_not (pt_val (pe_call (ok__law_is_call T) (hr.mono (by decide)) (by rfl) T.g__law_is_call T.d__law_is_call.F.kp T.d__law_is_call.b .nil pass0 (pa_cons (pv 1) pa_nil))))))))) (fun _ _ _ _ _ => (pv 1))))), ?_⟩
    have hn : (pst t).length ≤ 100000 := by have := (size_nodes t).1; unfold nodes at this; omega
    refine s_ret ((en_lcF (r := rW) (s := rWd) (ys := pst t) tName Stp.w (e_F (e_var hv rfl)) hn (fun _ => rfl) fun st u F hm e hu => ?_).e.as (filt_names hd.1)) ex q
    cases hu
    have hos := okdS_pst hd st hm
    obtain ⟨c0, r0, hw0, _⟩ := w_hd hos.1
    have hwl := w_len hos
    have k0 : ∀ {F a}, E rW (tVar 1) [a, some (.str (S st.w))] F st.w := e_var rfl rfl
    refine ⟨?_, fun _ => k0⟩
    refine (t_and (t_test (e_inS (c := c0) (b := lettersW) (e_atW (k := 0) k0 e_int (Int.le_refl _) (by rw [hw0]; rfl) (by omega)) (e_w (by decide +kernel)))) fun _ => t_not (t_b ((e_isCall T k0).as (w_call hos.1)))).as ?_
    rw [in_letters]
    cases st with
    | num z =>
      have hd0 := (figs_dig (show figs z = true from hos.1)).2 c0 (by show c0 ∈ z; rw [show z = c0 :: r0 from hw0]; exact List.mem_cons_self)
      have : let_ c0 = false := by
        unfold dig at hd0
        unfold let_
        simp only [Bool.and_eq_true, decide_eq_true_eq] at hd0
        rw [Bool.and_eq_false_iff, decide_eq_false_iff_not, decide_eq_false_iff_not]
        omega
      rw [this]; rfl
    | name z =>
      have hw0 : z = c0 :: r0 := hw0
      have h1 : isName (c0 :: r0) = true := by rw [← hw0]; exact hos.1
      unfold isName at h1
      simp only [Bool.and_eq_true] at h1
      rw [h1.1.1.2]; rfl
    | call z => simp [tCal, tName]
    | neg => cases hw0; decide
    | pow d => cases hw0; rfl
    | op o => cases hw0; cases o <;> decide
/-- a call: its name and what stands within -/
def rCN : Rp (W × Tr) := fun H v p => ∃ u, rTv H v [.str (S p.1), u] ∧ rTr H u p.2
instance : Mono rCN := ⟨fun e ⟨u, h1, h2⟩ => ⟨u, up (r := rTv) e h1, up (r := rTr) e h2⟩⟩
def callP : Tr → W × Tr | .call s t => (s, t) | t => ([], t)
theorem filt_calls : ∀ t : Tr, ((nds t).filter fun n => tCal (root n)).map callP = callsOf t
  | .num s => rfl
  | .name s => rfl
  | .call s t => by rw [nds, List.filter_append, List.map_append, filt_calls t]; rfl
  | .neg t => by rw [nds, List.filter_append, List.map_append, filt_calls t]; simp [root, tCal, callsOf]
  | .pow t d => by rw [nds, List.filter_append, List.map_append, filt_calls t]; simp [root, tCal, callsOf]
  | .op o l r => by rw [nds, List.filter_append, List.filter_append, List.map_append, List.map_append, filt_calls l, filt_calls r]; simp [root, tCal, callsOf]
theorem root_tup {H : Hp} {v : V} {t : Tr} (h : rTr H v t) : ∃ vs, rTv H v (.str (kw (root t)) :: vs) := by
  obtain ⟨vs, h1, _⟩ := root_read h
  exact ⟨vs, h1⟩
theorem ok_call_nodes (T : Txt w K mg) : FnOk P w K mg base CX0 2 T.d_call_nodes.a T.d_call_nodes.fd ["tree"] (sp1 rTr (rLst rCN) (fun t => size t ≤ 10000) callsOf) := by
  refine T.d_call_nodes.F.ok sc_call_nodes (fun vs H Q Ew h => ?_) (fun cdv A outer s H vs Q Ew hr h => ?_)
  · obtain ⟨_, _, v, x, rfl, _⟩ := h; rfl
  · obtain ⟨Hk, ex, v, t, rfl, hv, hz, q⟩ := h
    refine ⟨_, (pss_one (ps_ret (pe_lc (own := [("node", 1)]) (g := gName 1) rfl sc_call_nodes.nd (pi_list (pe_call (ok_nodes_of T) (hr.mono (by decide)) (by rfl) T.g_nodes_of T.d_nodes_of.F.kp T.d_nodes_of.b .nil pass0 (pa_cons (pv 0) pa_nil))) (blkOk_by (N := ["tree", "node"]) (sc := defScope s_call_nodes) (by decide +kernel)) (fun _ _ _ _ _ => (pg_name (i := 1) sc_call_nodes.nd rfl (Or.inl rfl) (hf := Or.inr rfl))) (fun _ _ _ _ _ => (pts_one (pt_cmpR op_eq (pe_ix (ix_tupK (K := K) rfl) (pv 1) pe_int (fun _ _ => rfl)) pe_str (nomark _)))) (fun _ _ _ _ _ => (pe_tup (pa_cons (pe_ix (ix_tupK (K := K) rfl) (pv 1) pe_int (fun _ _ => rfl)) (pa_cons (pe_ix (ix_tupK (K := K) rfl) (pv 1) pe_int (fun _ _ => rfl)) pa_nil))))))), ?_⟩
    have hn : (nds t).length ≤ 100000 := by rw [nodes_len]; have := (size_nodes t).1; omega
    refine s_ret ((en_lcF (r := rCN) (s := rTr) (ys := nds t) (fun n => tCal (root n)) callP (e_c1 (e_var hv rfl) hz) hn (fun _ => rfl) fun nd u F hm e hu => ?_).e.as (filt_calls t)) ex q
    obtain ⟨vs, h1⟩ := root_tup hu
    refine ⟨(t_test (e_eqV (b := "call") (e_ixT (k := 0) (e_var h1 rfl) rfl) e_sV)).as (kw_call _), fun c => ?_⟩
    cases nd with
    | call z x =>
      obtain ⟨y, h2, h3⟩ := hu
      exact fun H e Q q => (e_tup2 (e_ixT (k := 1) (e_var h2 rfl) rfl) (e_ixT (k := 2) (e_var h2 rfl) rfl)) H e Q fun v H2 F2 g hv => q v H2 F2 g ⟨y, hv, up (r := rTr) g.k h3⟩
    | _ => cases c
def nLn : Tr → Int | .num s => (s.length : Int) | _ => 0
theorem filt_digs (t : Tr) : (∀ m ∈ ((nds t).filter fun n => tNum (root n)).map nLn, m ≤ (digs t : Int)) ∧ ((digs t : Int) ∈ ((nds t).filter fun n => tNum (root n)).map nLn ∨ (digs t = 0 ∧ ∀ m ∈ ((nds t).filter fun n => tNum (root n)).map nLn, m = 0 ∨ True)) := by
  induction t with
  | num s => exact ⟨fun m hm => by cases List.mem_singleton.mp hm; exact Int.le_refl _, .inl List.mem_cons_self⟩
  | name s => exact ⟨fun m hm => (nomatch hm), .inr ⟨rfl, fun m hm => (nomatch hm)⟩⟩
  | call s t ih => rw [nds, List.filter_append, List.map_append]; simpa [root, tNum, digs] using ih
  | neg t ih => rw [nds, List.filter_append, List.map_append]; simpa [root, tNum, digs] using ih
  | pow t d ih => rw [nds, List.filter_append, List.map_append]; simpa [root, tNum, digs] using ih
  | op o l r i1 i2 =>
    rw [nds, List.filter_append, List.filter_append, List.map_append, List.map_append]
    have e : digs (.op o l r) = max (digs l) (digs r) := rfl
    simp only [List.filter_cons, List.filter_nil, root, tNum, Bool.false_eq_true, if_false, List.map_nil, List.append_nil, List.mem_append]
    refine ⟨fun m hm => ?_, ?_⟩
    · rcases hm with hm | hm
      · have := i1.1 m hm; omega
      · have := i2.1 m hm; omega
    · rw [e]
      by_cases h : digs r ≤ digs l
      · rw [Nat.max_eq_left h]
        rcases i1.2 with z | ⟨z, _⟩
        · exact .inl (.inl z)
        · exact .inr ⟨z, fun _ _ => .inr trivial⟩
      · rw [Nat.max_eq_right (by omega)]
        rcases i2.2 with z | ⟨z, _⟩
        · exact .inl (.inr z)
        · exact .inr ⟨z, fun _ _ => .inr trivial⟩
theorem ints_of {F : Hp} : ∀ {vs : List V} {l : List Int}, Paired (rInt F) vs l → vs = l.map V.int
  | _, _, .nil => rfl
  | _, _, .cons h t => by cases h; rw [ints_of t]; rfl
theorem ok_tree_digits (T : Txt w K mg) : FnOk P w K mg base CX0 2 T.d_tree_digits.a T.d_tree_digits.fd ["tree"] (sp1 rTr rInt (fun t => okd t ∧ size t ≤ 1000) fun t => (digs t : Int)) := by
  refine T.d_tree_digits.F.ok sc_tree_digits (fun vs H Q Ew h => ?_) (fun cdv A outer s H vs Q Ew hr h => ?_)
  · obtain ⟨_, _, v, x, rfl, _⟩ := h; rfl
  · obtain ⟨Hk, ex, v, t, rfl, hv, ⟨hd, hz⟩, q⟩ := h
    refine ⟨_, (pss_one (ps_ret (pe_callBK (call_maxDf rfl (hu_of hr)) (by rfl) T.n_max (by decide +kernel) (pa_cons (pe_lc (own := [("node", 1)]) (g := gName 1) rfl sc_tree_digits.nd (pi_list (pe_call (ok_nodes_of T) (hr.mono (by decide)) (by rfl) T.g_nodes_of T.d_nodes_of.F.kp T.d_nodes_of.b .nil pass0 (pa_cons (pv 0) pa_nil))) (blkOk_by (N := ["tree", "node"]) (sc := defScope s_tree_digits) (by decide +kernel)) (fun _ _ _ _ _ => (pg_name (i := 1) sc_tree_digits.nd rfl (Or.inl rfl) (hf := Or.inr rfl))) (fun _ _ _ _ _ => (pts_one (pt_cmpR op_eq (pe_ix (ix_tupK (K := K) rfl) (pv 1) pe_int (fun _ _ => rfl)) pe_str (nomark _)))) (fun _ _ _ _ _ => (pe_callB call_len_str (by rfl) T.n_len (by decide +kernel) (pa_cons (pe_ix (ix_tupK (K := K) rfl) (pv 1) pe_int (fun _ _ => rfl)) pa_nil)))) pa_nil) (pk_cons pe_int pk_nil)))), ?_⟩
    have hn : (nds t).length ≤ 100000 := by rw [nodes_len]; have := (size_nodes t).1; omega
    have en := en_lcF (K := K) (Hk := Hk) (σ := L2.start ["tree", "node"] [v]) (j := 1) (vs := [1]) (r := rInt) (s := rTr) (tl := tCall (sp1 rTr (rLst rTr) (fun t => size t ≤ 10000) nds) [] E0 (tCons (tVar 0) tNil)) (ys := nds t) (tt := tTest (tOp rEq (tOp (rIxT K) (tVar 1) (tC (.int 0))) (tC (.str "num")))) (te := tCB (fun xs H Q => ∃ z, xs = [V.str z] ∧ z.length ≤ sizeLine ∧ Q (.int z.length) H) (tCons (tOp (rIxT K) (tVar 1) (tC (.int 1))) tNil)) (fun n => tNum (root n)) nLn (e_c1 (e_var hv rfl) (by omega)) hn (fun _ => rfl) fun nd u F hm e hu => by
      obtain ⟨vs, h1⟩ := root_tup hu
      refine ⟨(t_test (e_eqV (b := "num") (e_ixT (k := 0) (e_var h1 rfl) rfl) e_sV)).as (kw_num _), fun c => ?_⟩
      cases nd with
      | num z =>
        have hzl : z.length ≤ 1000000 := by
          have := nds_ok hd.1 _ hm
          have h40 : z.length ≤ 40 := by
            have h := okdS_pst hd (.num z) (by rw [← nds_root]; exact List.mem_map.mpr ⟨_, hm, rfl⟩)
            exact h.2 z rfl
          omega
        have h40 : z.length ≤ 40 := (okdS_pst hd (.num z) (by rw [← nds_root]; exact List.mem_map.mpr ⟨_, hm, rfl⟩)).2 z rfl
        have hz1 : E rW (tOp (rIxT K) (tVar 1) (tC (.int 1))) ((wipe (L2.start ["tree", "node"] [v]) [1]).set 1 (some u)) F z := fun H e Q q => (e_ixT (K := K) (k := 1) (y := .str (S z)) (e_var (r := rTv) hu rfl) rfl) H e Q fun v H2 F2 g hv => q v H2 F2 g hv
        exact e_lenW hz1 (by omega)
      | _ => cases c
    obtain ⟨m1, m2⟩ := filt_digs t
    unfold tRet tCKw tCons tNil
    refine en H ex _ fun p vs H2 F g fp hp h2 hv => ?_
    have hvs := ints_of hv
    refine ⟨p, _, 0, rfl, rfl, by rw [h2, hvs], fun e0 => ?_, fun m hm hmx => ?_⟩
    · rcases m2 with z | ⟨z, _⟩
      · rw [e0] at z; cases z
      · exact q _ H2 F g (by show V.int 0 = V.int ((digs t : Nat) : Int); rw [z]; rfl)
    · have h1 := m1 m hm
      have : m = (digs t : Int) := by
        rcases m2 with z | ⟨z, _⟩
        · have := hmx _ z; omega
        · have : 0 ≤ m := by
            obtain ⟨n, _, rfl⟩ := List.mem_map.mp hm
            cases n <;> simp [nLn]
          rw [z] at h1 ⊢; omega
      exact q _ H2 F g (by show V.int m = V.int ((digs t : Nat) : Int); rw [this])
end
end F1

set_option Elab.async false
set_option linter.all false
set_option autoImplicit false
set_option maxRecDepth 100000
set_option maxHeartbeats 4000000
/-! # The reader: an instance that changes -/
namespace F1
open PySem L2 Y
open Pl hiding Sp Ss PA PB RA RW RP RS
def rSg : Rp Sg := fun _ v s => v = .str (S s.w)
instance : Mono rSg := ⟨fun _ h => h⟩
instance : Plain rSg := ⟨id⟩
def OnL {α : Type} (r : Rp α) (M F : Hp) (o : Addr) (L : List α) : Prop := ∃ vs, M o = some (.lst vs) ∧ Paired (r F) vs L.reverse
theorem OnL.up {α : Type} {r : Rp α} [Mono r] {M F F' : Hp} {o : Addr} {L : List α} (h : OnL r M F o L) (e : Ex F F') : OnL r M F' o L := by
  obtain ⟨vs, h1, h2⟩ := h
  exact ⟨vs, h1, p_up e h2⟩
theorem OnL.m {α : Type} {r : Rp α} {M M2 F : Hp} {o : Addr} {L : List α} (h : OnL r M F o L) (e : M2 o = M o) : OnL r M2 F o L := by
  obtain ⟨vs, h1, h2⟩ := h
  exact ⟨vs, by rw [e]; exact h1, h2⟩
structure Ad where
  a : Addr
  wl : Addr
  tl : Addr
  sl : Addr
  dx : Addr
abbrev rdF (A : Ad) (st : Rs) : List (Str × V) := [("_words", .ref A.wl), ("_at", .int (st.k : Int)), ("_trees", .ref A.tl), ("_signs", .ref A.sl), ("_has_operand", .bl st.o), ("_has_power", .bl st.p)]
/-- a reader, its words known, its lists own -/
structure RD (cT : Addr) (ws : List W) (F M : Hp) (A : Ad) (st : Rs) : Prop where
  i : M A.a = some (.ins cT A.dx (rdF A st))
  w : F A.wl = some (.lst (lw ws))
  t : OnL rTr M F A.tl st.T
  s : OnL rSg M F A.sl st.S
  n1 : A.a ≠ A.tl
  n2 : A.a ≠ A.sl
  n3 : A.tl ≠ A.sl
section
variable {cT : Addr} {ws : List W} {F F' M M2 : Hp} {A : Ad} {st : Rs}
theorem RD.up (h : RD cT ws F M A st) (e : Ex F F') : RD cT ws F' M A st := ⟨h.i, e _ _ h.w, h.t.up e, h.s.up e, h.n1, h.n2, h.n3⟩
theorem RD.fl (h : RD cT ws F M A st) (k : Nat) (o p : Bool) : RD cT ws F (upd M A.a (.ins cT A.dx (rdF A ⟨k, st.T, st.S, o, p⟩))) A ⟨k, st.T, st.S, o, p⟩ :=
  ⟨upd_same, h.w, h.t.m (upd_ne (Ne.symm h.n1)), h.s.m (upd_ne (Ne.symm h.n2)), h.n1, h.n2, h.n3⟩
theorem RD.tr (h : RD cT ws F M A st) {L : List Tr} (ho : OnL rTr M2 F A.tl L) (hm : ∀ b, b ≠ A.tl → M2 b = M b) : RD cT ws F M2 A ⟨st.k, L, st.S, st.o, st.p⟩ :=
  ⟨by rw [hm _ h.n1]; exact h.i, h.w, ho, h.s.m (hm _ (Ne.symm h.n3)), h.n1, h.n2, h.n3⟩
theorem RD.sg (h : RD cT ws F M A st) {L : List Sg} (ho : OnL rSg M2 F A.sl L) (hm : ∀ b, b ≠ A.sl → M2 b = M b) : RD cT ws F M2 A ⟨st.k, st.T, L, st.o, st.p⟩ :=
  ⟨by rw [hm _ h.n2]; exact h.i, h.w, h.t.m (hm _ h.n3), ho, h.n1, h.n2, h.n3⟩
end
section
variable {P : Program} {w : World} {K : PySem.W.Frag} {mg : Str → Option Value} {base : Heap}
section
variable {α β : Type} {r : Rp α} {σ : L2.St} {Hk H M K0 H0 M0 : Hp} {ta tb tc te tl to tv : TE} {tt : TT} {D : Ends} {Q : VK} {a C dx o : Addr} {fs fs' : List (Str × V)} {f : Str} {v : V} {x : α}
theorem e_fld {i : Nat} (ho : σ[i]? = some (some (.ref a))) (ha : Hk a = some (.ins C dx fs)) (hc : Cls K C) (hn : NoAttr K C f) (hl : fs.lookup f = some v) (hr : r Hk v x) : E r (tFld K (tVar i) f) σ Hk x :=
  fun H e Q q => ⟨.ref a, ho, a, C, dx, fs, v, rfl, e _ _ ha, hc, hn, hl, q v H Hk (Grow.refl e) hr⟩
theorem o_fld {i : Nat} (ho : σ[i]? = some (some (.ref a))) (ha : M a = some (.ins C dx fs)) (hc : Cls K C) (hn : NoAttr K C f) (hl : fs.lookup f = some v) (g : GM K0 H0 M0 Hk H M) : ∀ Q : VK, Q v H → tFld K (tVar i) f σ H Q :=
  fun Q q => ⟨.ref a, ho, a, C, dx, fs, v, rfl, g.m _ _ ha, hc, hn, hl, q⟩
/-- a.f = v -/
theorem g_fset {i : Nat} (hv : ∀ Q : VK, Q v H → tv σ H Q) (ho : σ[i]? = some (some (.ref a))) (hm : M a = some (.ins C dx fs)) (hc : Cls K C) (hn : NoAttr K C f) (hl : fs.length < 1000) (he : putF f v fs = fs') (g : GM K0 H0 M0 Hk H M)
    (k : GM K0 H0 M0 Hk (upd H a (.ins C dx fs')) (upd M a (.ins C dx fs')) → D.nx σ (upd H a (.ins C dx fs'))) : sFld K (tVar i) tv f D σ H :=
  hv _ ⟨.ref a, ho, a, C, dx, fs, rfl, g.m _ _ hm, hc, hn, hl, by rw [he]; exact k (g.upd hm)⟩
theorem o_c {v : V} : ∀ Q : VK, Q v H → tC v σ H Q := fun Q q => q
/-- a.f += 1 -/
theorem g_faug {i : Nat} {n : Int} (ho : σ[i]? = some (some (.ref a))) (hm : M a = some (.ins C dx fs)) (hc : Cls K C) (hn : NoAttr K C f) (hl : fs.lookup f = some (.int n)) (hz : fs.length < 1000) (he : putF f (.int (n + 1)) fs = fs') (g : GM K0 H0 M0 Hk H M)
    (k : GM K0 H0 M0 Hk (upd H a (.ins C dx fs')) (upd M a (.ins C dx fs')) → D.nx σ (upd H a (.ins C dx fs'))) : sFldAug K (tVar i) (tC (.int 1)) rAdd f D σ H :=
  ⟨.ref a, ho, a, C, dx, fs, .int n, rfl, g.m _ _ hm, hc, hn, hl, n, 1, rfl, rfl, dx, fs, g.m _ _ hm, hz, by rw [he]; exact k (g.upd hm)⟩
/-- o.m(..) on an instance of its own -/
theorem m_0 {i : Nat} {m : Str} {sp : Sp} {Ew : XK} (ho : σ[i]? = some (some (.ref a))) (hm : H a = some (.ins C dx fs)) (hl : fs.lookup m = none) (k : sp [.ref a] H Q Ew) : tMeth C m sp [] Ew (tVar i) tNil σ H Q :=
  ⟨.ref a, ho, a, dx, fs, rfl, hm, hl, k⟩
theorem m_1 {i : Nat} {m : Str} {sp : Sp} {Ew : XK} (hv : ∀ Q : VK, Q v H → te σ H Q) (ho : σ[i]? = some (some (.ref a))) (hm : H a = some (.ins C dx fs)) (hl : fs.lookup m = none) (k : sp [.ref a, v] H Q Ew) : tMeth C m sp [] Ew (tVar i) (tCons te tNil) σ H Q :=
  ⟨.ref a, ho, a, dx, fs, rfl, hm, hl, hv _ k⟩
theorem g_popL {u : α} {L : List α} (hi : ∀ Q : VK, Q (.ref o) H → to σ H Q) (hs : OnL r M Hk o (u :: L)) (g : GM K0 H0 M0 Hk H M)
    (k : ∀ v H2 M2, r Hk v u → GM K0 H0 M0 Hk H2 M2 → OnL r M2 Hk o L → (∀ a, a ≠ o → M2 a = M a) → Q v H2) : tBM0 K "list" rPop to σ H Q := by
  obtain ⟨vs, h1, h2⟩ := hs
  exact g_popS (r := r) hi h1 h2 g fun v ws hv hw g2 => k v _ _ hv g2 ⟨ws, upd_same, hw⟩ fun a ha => upd_ne ha
theorem g_pushL {u : α} {L : List α} {v : V} (hs : OnL r M Hk o L) (hl : L.length ≤ 60000) (g : GM K0 H0 M0 Hk H M) (hv : r Hk v u)
    (k : ∀ H2 M2, GM K0 H0 M0 Hk H2 M2 → OnL r M2 Hk o (u :: L) → (∀ a, a ≠ o → M2 a = M a) → Q .non H2) : rAppend (.ref o) [v] H Q := by
  obtain ⟨vs, h1, h2⟩ := hs
  exact g_push h1 g (by rw [p_len h2, List.length_reverse]; omega) fun g2 => k _ _ g2 ⟨_, upd_same, p_push h2 hv⟩ fun a ha => upd_ne ha
theorem g_stkL [Mono r] {u : α} {L : List α} (hi : ∀ Q : VK, Q (.ref o) H → to σ H Q) (hs : OnL r M Hk o L) (hl : L.length ≤ 60000) (g : GM K0 H0 M0 Hk H M) (he : E r te σ Hk u)
    (k : ∀ H2 F M2, GM K0 H0 M0 F H2 M2 → Ex Hk F → OnL r M2 F o (u :: L) → (∀ a, a ≠ o → M2 a = M a) → D.nx σ H2) : tDrop (tBM K "list" rAppend to (tCons te tNil)) D σ H := by
  obtain ⟨vs, h1, h2⟩ := hs
  refine g_appE hi h1 g (by rw [p_len h2, List.length_reverse]; omega) he fun v H2 F g2 e hv => k _ F _ g2 e ⟨_, upd_same, p_push (p_up e h2) hv⟩ fun a ha => upd_ne ha
theorem g_appL (hi : ∀ Q : VK, Q (.ref o) H → to σ H Q) (hs : ∃ vs, M o = some (.lst vs)) (g : GM K0 H0 M0 Hk H M) (he : te σ H fun v H2 => rAppend (.ref o) [v] H2 fun _ H3 => D.nx σ H3) : tDrop (tBM K "list" rAppend to (tCons te tNil)) D σ H := by
  obtain ⟨vs, h1⟩ := hs
  exact g_app hi h1 g he
/-- a tuple, made and pushed -/
theorem g_tupL [Mono r] {u : α} {L : List α} {vs : List V} (hs : OnL r M Hk o L) (hl : L.length ≤ 60000) (g : GM K0 H0 M0 Hk H M) (hz : vs.length ≤ 10) (h : ∀ F p, Ex Hk F → F p = some (.tup vs) → r F (.ref p) u)
    (kk : ∀ H3 F M3, GM K0 H0 M0 F H3 M3 → Ex Hk F → OnL r M3 F o (u :: L) → (∀ a, a ≠ o → M3 a = M a) → Q .non H3) :
    vs.length ≤ sizeLine ∧ ∀ p, H p = none → rAppend (.ref o) [.ref p] (upd H p (.tup vs)) Q :=
  ⟨sz_of (by omega), fun p hp => by
    have g2 := g.newk (u := .tup vs) hp
    have e2 : Ex Hk (upd Hk p (.tup vs)) := Ex.new (g.f.free hp)
    exact g_pushL (u := u) (hs.up e2) hl g2 (h _ p e2 upd_same) fun H3 M3 g3 hs3 hm => kk H3 _ M3 g3 e2 hs3 hm⟩
end
section
variable {σ : L2.St} {Hk H M K0 H0 M0 : Hp} {ty te : TE}
theorem rank_get (T : Txt w K mg) (s : Sg) (hc : ∀ z, s = .call z → isCall z = true) : (∃ u, PySem.W.nsIn K T.aR (S s.w) = some (some u) ∧ RelV (.int (s.rank : Int)) u) ∨ (PySem.W.nsIn K T.aR (S s.w) = some none ∧ s.rank = 0) := by
  have h := T.hR
  have h2 := T.iR
  cases s with
  | opn => exact .inr ⟨h2 "(" (by simp), rfl⟩
  | call z =>
    refine .inr ⟨h2 (S z) (List.mem_cons_of_mem _ ?_), rfl⟩
    rw [← calls_S]
    exact List.mem_map.mpr ⟨z, of_decide_eq_true (hc z rfl), rfl⟩
  | neg => exact .inl (h ("~", .int 1) (by simp))
  | op o =>
    cases o with
    | add => exact .inl (h ("+", .int 1) (by simp))
    | sub => exact .inl (h ("-", .int 1) (by simp))
    | mul => exact .inl (h ("*", .int 2) (by simp))
    | div => exact .inl (h ("/", .int 2) (by simp))
theorem e_rank (T : Txt w K mg) {s : Sg} (hc : ∀ z, s = .call z → isCall z = true) (h : E rSg ty σ Hk s) : E rInt (tKGet2 K w T.aR (tC (.ref T.aR)) ty (tC (.int 0))) σ Hk (s.rank : Int) := fun H e Q q =>
  ⟨rfl, h H e _ fun v H2 F g hv => by
    cases hv
    refine ⟨S s.w, ?_⟩
    rcases rank_get T s hc with ⟨u, h1, h2⟩ | ⟨h1, h2⟩
    · exact ⟨some u, rfl, h1, .inl ⟨_, u, rfl, h2, q _ H2 F g rfl⟩⟩
    · exact ⟨none, rfl, h1, .inr ⟨rfl, q _ H2 F g (by show V.int 0 = V.int _; rw [h2]; rfl)⟩⟩⟩
theorem node_get (T : Txt w K mg) (o : Op) : KDct K w T.aN (S [o.c]) (.str (opW o)) := by
  have h := T.hN
  have : ∀ q : Str × V, q ∈ [(("+" : Str), V.str "add"), ("-", .str "sub"), ("*", .str "mul"), ("/", .str "div")] → KDct K w T.aN q.1 q.2 := fun q hq => by
    obtain ⟨u, h1, h2⟩ := h q hq
    exact ⟨T.eN, T.mN, u, T.k_NODES.at_, T.k_NODES.lit, h1, h2⟩
  cases o with
  | add => exact this ("+", .str "add") (by simp)
  | sub => exact this ("-", .str "sub") (by simp)
  | mul => exact this ("*", .str "mul") (by simp)
  | div => exact this ("/", .str "div") (by simp)
theorem rank_op (T : Txt w K mg) (o : Op) : KDct K w T.aR (S [o.c]) (.int ((Sg.op o).rank : Int)) := by
  have h := T.hR
  have : ∀ q : Str × V, q ∈ [(("+" : Str), V.int 1), ("-", .int 1), ("~", .int 1), ("*", .int 2), ("/", .int 2)] → KDct K w T.aR q.1 q.2 := fun q hq => by
    obtain ⟨u, h1, h2⟩ := h q hq
    exact ⟨T.eR, T.mR, u, T.k_RANKS.at_, T.k_RANKS.lit, h1, h2⟩
  cases o with
  | add => exact this ("+", .int 1) (by simp)
  | sub => exact this ("-", .int 1) (by simp)
  | mul => exact this ("*", .int 2) (by simp)
  | div => exact this ("/", .int 2) (by simp)
end
/-- a method that tells whether it goes on -/
def spB {α : Type} (cT : Addr) (gv : α → List V) (pre : List W → Rs → α → Prop) (f : List W → Rs → α → Option Rs) : Sp := fun vs H Q _ => ∃ (x : α) (Hk M : Hp) (A : Ad) (ws : List W) (st : Rs), vs = .ref A.a :: gv x ∧ Ex Hk (sub H M) ∧ Ex M H ∧ RD cT ws Hk M A st ∧ pre ws st x ∧
  (∀ st', f ws st x = some st' → ∀ H' F M', GM Hk H M F H' M' → RD cT ws F M' A st' → Q (.bl true) H') ∧ (f ws st x = none → ∀ H' F M', GM Hk H M F H' M' → Q (.bl false) H')
def spSet (cT : Addr) : Sp := fun vs H Q _ => ∃ (r : Nat) (Hk M : Hp) (A : Ad) (ws : List W) (st : Rs), vs = [.ref A.a, .int (r : Int)] ∧ Ex Hk (sub H M) ∧ Ex M H ∧ RD cT ws Hk M A st ∧ 1 ≤ r ∧ st.T.length = nops st.S + 1 ∧ st.S.length ≤ 50000 ∧ (∀ z, Sg.call z ∈ st.S → isCall z = true) ∧
  (∀ H' F M', GM Hk H M F H' M' → RD cT ws F M' A ⟨st.k, (settle r st.T st.S).1, (settle r st.T st.S).2, st.o, st.p⟩ → Q .non H')
def spNx (cT : Addr) : Sp := fun vs H Q _ => ∃ (Hk : Hp) (A : Ad) (ws : List W) (st : Rs), vs = [.ref A.a] ∧ Ex Hk H ∧ Hk A.a = some (.ins cT A.dx (rdF A st)) ∧ Hk A.wl = some (.lst (lw ws)) ∧ Res rW Hk H (ws.getD st.k []) Q
theorem rd_len {ws : List W} {F : Hp} {A : Ad} (h : F A.wl = some (.lst (lw ws))) : rLst rW F (.ref A.wl) ws := ⟨_, _, rfl, h, of_ws ws⟩
theorem ok_TreeReader__next_word (T : Txt w K mg) : FnOk P w K mg base CX0 1 T.d_TreeReader__next_word.a T.d_TreeReader__next_word.fd ["self"] (spNx T.cT) := by
  refine T.d_TreeReader__next_word.F.ok sc_TreeReader__next_word (fun vs H Q Ew h => ?_) (fun cdv A outer s H vs Q Ew hr h => ?_)
  · obtain ⟨_, _, _, _, rfl, _⟩ := h; rfl
  · obtain ⟨Hk, A, ws, st, rfl, ex, hi, hw, q⟩ := h
    refine ⟨_, (pss_cons (ps_if (pt_cmpR op_lt (pe_fldK (K := K) rfl (pv 0) rfl) (pe_callB (c_lenK (K := K) rfl) (by rfl) T.n_len (by decide +kernel) (pa_cons (pe_fldK (K := K) rfl (pv 0) rfl) pa_nil)) (nomark _)) (pss_one (ps_ret (pe_ix (ix_listK (K := K) rfl) (pe_fldK (K := K) rfl (pv 0) rfl) (pe_fldK (K := K) rfl (pv 0) rfl) (fun _ _ => rfl)))) pss_nil)
      (pss_one (ps_ret pe_str))), ?_⟩
    have eA : E rInt (tFld K (tVar 0) "_at") (L2.start ["self"] [.ref A.a]) Hk (st.k : Int) := e_fld rfl hi T.clT T.nA rfl rfl
    have eW : E (rLst rW) (tFld K (tVar 0) "_words") (L2.start ["self"] [.ref A.a]) Hk ws := e_fld rfl hi T.clT T.nW rfl (rd_len hw)
    refine s_if (K := Hk) (t_test (e_b0 (p := fun i j => decide (i < j)) eA (e_len (Kf := K) eW))) ex (fun c H1 e1 => ?_) (fun c H1 e1 => ?_)
    · have hk : st.k < ws.length := by have := of_decide_eq_true c; omega
      refine s_ret ((e_at (Kf := K) (x := ws[st.k]) eW eA (by omega) (by simp [hk])).as (by simp [hk])) (ex.trans e1) (Res.at ex e1 q)
    · have hk : ws.length ≤ st.k := by have := of_decide_eq_false c; omega
      unfold tNext
      dsimp only
      refine s_ret ((e_w (a := []) rfl).as ?_) (ex.trans e1) (Res.at ex e1 q)
      rw [List.getD_eq_getElem?_getD, List.getElem?_eq_none hk]; rfl
theorem ok_TreeReader__open (T : Txt w K mg) : FnOk P w K mg base CX0 1 T.d_TreeReader__open.a T.d_TreeReader__open.fd ["self", "word"] (spB T.cT (fun s : Sg => [V.str (S s.w)]) (fun ws st s => st.S.length ≤ 50000) fun ws st s => opnR st s) := by
  refine T.d_TreeReader__open.F.ok sc_TreeReader__open (fun vs H Q Ew h => ?_) (fun cdv A outer s H vs Q Ew hr h => ?_)
  · obtain ⟨_, _, _, _, _, _, rfl, _⟩ := h; rfl
  · obtain ⟨sg, Hk, M, A, ws, st, rfl, h1, h2, rd, hz, q1, q2⟩ := h
    refine ⟨_, (pss_cons (ps_if (pt_val (pe_fldK (K := K) rfl (pv 0) rfl)) (pss_one (ps_ret pe_bl)) pss_nil)
      (pss_cons (ps_expr (pe_bm PySem.F.plainAttrs_list PySem.F.slot_list_append PySem.F.type_list_append mt_append (pe_fldK (K := K) rfl (pv 0) rfl) (pa_cons (pv 1) pa_nil)))
      (pss_one (ps_ret pe_bl)))), ?_⟩
    dsimp only at q1 q2
    have g0 := GM.refl h1 h2
    have eO : E rBl (tFld K (tVar 0) "_has_operand") (L2.start ["self", "word"] [.ref A.a, .str (S sg.w)]) (jn Hk M) st.o := e_fld rfl (g0.jr rd.i) T.clT T.nO rfl rfl
    refine g_if (t_b eO) g0 (fun c H1 g1 => ?_) (fun c H1 g1 => ?_)
    · exact q2 (by unfold opnR; rw [if_pos c]) _ _ _ g1
    · refine g_stkL (r := rSg) (u := sg) (o_fld rfl rd.i T.clT T.nS rfl g1) rd.s (by omega) g1 (e_var rfl rfl) fun H2 F2 M2 g2 e2 hs2 hm2 => ?_
      exact q1 ⟨st.k, st.T, sg :: st.S, st.o, st.p⟩ (by unfold opnR; rw [if_neg (by rw [c]; simp)]) _ _ _ g2 ((rd.up e2).sg hs2 hm2)
end
end F1

set_option Elab.async false
set_option linter.all false
set_option autoImplicit false
set_option maxRecDepth 100000
set_option maxHeartbeats 4000000
/-! # The reader's methods -/
namespace F1
open PySem L2 Y
open Pl hiding Sp Ss PA PB RA RW RP RS
section
variable {P : Program} {w : World} {K : PySem.W.Frag} {mg : Str → Option Value} {base : Heap}
theorem ok_TreeReader__take_atom (T : Txt w K mg) : FnOk P w K mg base CX0 2 T.d_TreeReader__take_atom.a T.d_TreeReader__take_atom.fd ["self", "word"] (spB T.cT (fun s : W => [V.str (S s)]) (fun ws st s => st.T.length ≤ 50000 ∧ s.length ≤ 100000) fun ws st s => atomR st s) := by
  refine T.d_TreeReader__take_atom.F.ok sc_TreeReader__take_atom (fun vs H Q Ew h => ?_) (fun cdv A outer s H vs Q Ew hr h => ?_)
  · obtain ⟨_, _, _, _, _, _, rfl, _⟩ := h; rfl
  · obtain ⟨x, Hk, M, A, ws, st, rfl, h1, h2, rd, ⟨hz, hx⟩, q1, q2⟩ := h
    refine ⟨_, (pss_cons (ps_if (pt_val (pe_fldK (K := K) rfl (pv 0) rfl)) (pss_one (ps_ret pe_bl)) pss_nil)
      (pss_cons (ps_if (pt_val (pe_call (ok_is_digits T) (hr.mono (by decide)) (by rfl) T.g_is_digits T.d_is_digits.F.kp T.d_is_digits.b .nil pass0 (pa_cons (pv 1) pa_nil))) (pss_one (ps_expr (pe_bm PySem.F.plainAttrs_list PySem.F.slot_list_append PySem.F.type_list_append mt_append (pe_fldK (K := K) rfl (pv 0) rfl) (pa_cons (pe_tup (pa_cons pe_str (pa_cons (pv 1) pa_nil))) pa_nil)))) (pss_one (ps_if (pt_val (pe_call (ok_is_name T) (hr.mono (by decide)) (by rfl) T.g_is_name T.d_is_name.F.kp T.d_is_name.b .nil pass0 (pa_cons (pv 1) pa_nil))) (pss_one (ps_expr (pe_bm PySem.F.plainAttrs_list PySem.F.slot_list_append PySem.F.type_list_append mt_append (pe_fldK (K := K) rfl (pv 0) rfl) (pa_cons (pe_tup (pa_cons pe_str (pa_cons (pv 1) pa_nil))) pa_nil)))) (pss_one (ps_ret pe_bl)))))
      (pss_cons (ps_fld (pv 0) pe_bl rfl)
      (pss_cons (ps_fld (pv 0) pe_bl rfl)
      (pss_one (ps_ret pe_bl)))))), ?_⟩
    dsimp only at q1 q2
    have g0 := GM.refl h1 h2
    have eO : E rBl (tFld K (tVar 0) "_has_operand") (L2.start ["self", "word"] [.ref A.a, .str (S x)]) (jn Hk M) st.o := e_fld rfl (g0.jr rd.i) T.clT T.nO rfl rfl
    refine g_if (t_b eO) g0 (fun c H1 g1 => ?_) (fun c H1 g1 => ?_)
    · exact q2 (by unfold atomR; rw [if_pos c]) _ _ _ g1
    · have fin : ∀ (L : List Tr) H2 F M2, GM Hk H M F H2 M2 → Ex Hk F → RD T.cT ws F M2 A ⟨st.k, L, st.S, st.o, st.p⟩ → atomR st x = some ⟨st.k, L, st.S, true, false⟩ → 
          (sFld K (tVar 0) (tC (.bl true)) "_has_operand" { nx := fun σ H => sFld K (tVar 0) (tC (.bl false)) "_has_power" { nx := fun σ H => Q (.bl true) H, rt := Q } σ H, rt := Q } (L2.start ["self", "word"] [.ref A.a, .str (S x)]) H2 : Prop) := fun L H2 F M2 g2 e2 rd2 ha => by
        refine g_fset (fs' := rdF A ⟨st.k, L, st.S, true, st.p⟩) o_c rfl rd2.i T.clT T.nO (by show 6 < 1000; decide) rfl g2 fun g3 => ?_
        have rd3 := rd2.fl st.k true st.p
        refine g_fset (fs' := rdF A ⟨st.k, L, st.S, true, false⟩) o_c rfl rd3.i T.clT T.nP (by show 6 < 1000; decide) rfl g3 fun g4 => ?_
        exact q1 _ ha _ _ _ g4 (rd3.fl st.k true false)
      refine g_if (t_b (e_c1 (r := rW) (x := x) (e_var rfl rfl) hx)) g1 (fun c2 H2 g2 => ?_) (fun c2 H2 g2 => ?_)
      · refine g_stkL (r := rTr) (u := .num x) (o_fld rfl rd.i T.clT T.nT rfl g2) rd.t (by omega) g2 (fun H e Q q => (e_tup2 (a := .str "num") (b := .str (S x)) (e_c rfl) (e_v rfl)) H e Q fun v H2 F g hv => q v H2 F g hv) fun H3 F3 M3 g3 e3 hs3 hm3 => ?_
        refine fin _ H3 F3 M3 g3 e3 ((rd.up e3).tr hs3 hm3) ?_
        unfold atomR; rw [if_neg (by rw [c]; simp), if_pos c2]
      · refine g_if (t_b (e_c1 (r := rW) (x := x) (e_var rfl rfl) hx)) g2 (fun c3 H3 g3 => ?_) (fun c3 H3 g3 => ?_)
        · refine g_stkL (r := rTr) (u := .name x) (o_fld rfl rd.i T.clT T.nT rfl g3) rd.t (by omega) g3 (fun H e Q q => (e_tup2 (a := .str "name") (b := .str (S x)) (e_c rfl) (e_v rfl)) H e Q fun v H2 F g hv => q v H2 F g hv) fun H4 F4 M4 g4 e4 hs4 hm4 => ?_
          refine fin _ H4 F4 M4 g4 e4 ((rd.up e4).tr hs4 hm4) ?_
          unfold atomR; rw [if_neg (by rw [c]; simp), if_neg (by rw [c2]; simp), if_pos c3]
        · exact q2 (by unfold atomR; rw [if_neg (by rw [c]; simp), if_neg (by rw [c2]; simp), if_neg (by rw [c3]; simp)]) _ _ _ g3
theorem ok_TreeReader__settle (T : Txt w K mg) : FnOk P w K mg base CX0 1 T.d_TreeReader__settle.a T.d_TreeReader__settle.fd ["self", "rank"] (spSet T.cT) := by
  refine T.d_TreeReader__settle.F.ok sc_TreeReader__settle (fun vs H Q Ew h => ?_) (fun cdv A outer s H vs Q Ew hr h => ?_)
  · obtain ⟨_, _, _, _, _, _, rfl, _⟩ := h; rfl
  · obtain ⟨r, Hk, M, A, ws, st, rfl, h1, h2, rd, hr1, ht, hs, hc, q⟩ := h
    refine ⟨_, (pss_one (ps_while PassesOwn.never (PW.pt (pw_and (pt_cmpR op_gt (pe_callB (c_lenK (K := K) rfl) (by rfl) T.n_len (by decide +kernel) (pa_cons (pe_fldK (K := K) rfl (pv 0) rfl) pa_nil)) pe_int (nomark _)) (pw_and1 (pt_cmpR op_ge (pe_kget2 T.k_RANKS (pe_glob (v := .ref T.aR) rfl T.g_RANKS rfl) (pe_ix (ix_listK (K := K) rfl) (pe_fldK (K := K) rfl (pv 0) rfl) (pe_un un_neg pe_int) (fun _ _ => rfl)) pe_int ⟨rfl, rfl, rfl, rfl⟩) (pv 1) (nomark _))))) (pss_cons (ps_set (i := 2) sc_TreeReader__settle.nd rfl (Or.inl rfl) (pe_bm0 PySem.F.plainAttrs_list PySem.F.slot_list_pop PySem.F.type_list_pop mt_pop (pe_fldK (K := K) rfl (pv 0) rfl)))
      (pss_cons (ps_set (i := 3) sc_TreeReader__settle.nd rfl (Or.inl rfl) (pe_bm0 PySem.F.plainAttrs_list PySem.F.slot_list_pop PySem.F.type_list_pop mt_pop (pe_fldK (K := K) rfl (pv 0) rfl)))
      (pss_one (ps_if (pt_cmpR op_eq (pv 2) (C8.pe_gc (v := .str "~") rfl T.g_NEGATIVE) (nomark _)) (pss_one (ps_expr (pe_bm PySem.F.plainAttrs_list PySem.F.slot_list_append PySem.F.type_list_append mt_append (pe_fldK (K := K) rfl (pv 0) rfl) (pa_cons (pe_tup (pa_cons pe_str (pa_cons (pv 3) pa_nil))) pa_nil)))) (pss_one (ps_expr (pe_bm PySem.F.plainAttrs_list PySem.F.slot_list_append PySem.F.type_list_append mt_append (pe_fldK (K := K) rfl (pv 0) rfl) (pa_cons (pe_tup (pa_cons (pe_ix (ix_kdictK (K := K) (w := w) rfl rfl) (pe_glob (v := .ref T.aN) rfl T.g_NODES rfl) (pv 2) (fun _ _ => rfl)) (pa_cons (pe_bm0 PySem.F.plainAttrs_list PySem.F.slot_list_pop PySem.F.type_list_pop mt_pop (pe_fldK (K := K) rfl (pv 0) rfl)) (pa_cons (pv 3) pa_nil)))) pa_nil)))))))))), ?_⟩
    have g0 := GM.refl h1 h2
    refine s_while (fun m σ' H' => ∃ (L : List Tr) (Z : List Sg) (a b : Option V) (K1 M1 : Hp), σ' = [some (.ref A.a), some (.int (r : Int)), a, b] ∧ m = Z.length ∧ GM Hk H M K1 H' M1 ∧ RD T.cT ws K1 M1 A ⟨st.k, L, Z, st.o, st.p⟩ ∧ settle r L Z = settle r st.T st.S ∧ L.length = nops Z + 1 ∧ Z.length ≤ 50000 ∧ (∀ z, Sg.call z ∈ Z → isCall z = true)) _
      ⟨st.T, st.S, none, none, _, _, rfl, rfl, g0, rd, rfl, ht, hs, hc⟩ ?_
    rintro m σ' H' ⟨L, Z, a, b, K1, M1, rfl, rfl, g, rd, he, ht, hs, hc⟩
    have eS : E (rLst rSg) (tFld K (tVar 0) "_signs") [some (.ref A.a), some (.int (r : Int)), a, b] (jn K1 M1) Z.reverse := by
      obtain ⟨vs, h3, h4⟩ := rd.s
      exact e_fld rfl (g.jr rd.i) T.clT T.nS rfl ⟨A.sl, vs, rfl, g.jr h3, h4⟩
    cases Z with
    | nil =>
      refine ⟨false, jn K1 M1, g.jn, (t_and (b := false) (t_test (e_b0 (p := fun i j => decide (i > j)) (e_len (Kf := K) eS) e_int)) fun z => absurd (of_decide_eq_true z) (by simp)).as rfl, (fun z => (nomatch z)), fun _ H2 e2 => ?_⟩
      exact q H2 K1 M1 (g.ex e2) (by rw [← he]; exact rd)
    | cons sg Z =>
      have hcs : ∀ z, sg = .call z → isCall z = true := fun z hz => hc z (by rw [hz]; exact List.mem_cons_self)
      have eL : E rSg (tOp (rIxL K) (tFld K (tVar 0) "_signs") (tUn (rU fun i => .int (-i)) (tC (.int 1)))) [some (.ref A.a), some (.int (r : Int)), a, b] (jn K1 M1) sg := fun H e Q q => eS H e _ fun v H2 F g hv => by
        obtain ⟨p, vs, rfl, h3, h4⟩ := hv
        rw [List.reverse_cons] at h4
        obtain ⟨vs', u, rfl, h5, h6⟩ := p_snoc h4
        exact ⟨1, rfl, p, _, (-1), u, rfl, rfl, sq_of (g.f _ _ h3), atI_last vs' u, q u H2 F g h6⟩
      refine ⟨decide ((sg.rank : Int) ≥ r), jn K1 M1, g.jn, (t_and (t_test (e_b0 (p := fun i j => decide (i > j)) (e_len (Kf := K) eS) e_int)) fun z => t_test (e_b0 (p := fun i j => decide (i ≥ j)) (e_rank T hcs eL) (e_var (x := (r : Int)) rfl rfl))).as (b := decide (((sg :: Z).reverse.length : Int) > 0) && decide ((sg.rank : Int) ≥ r)) (by rw [decide_eq_true (by simp), Bool.true_and]), fun hb H2 e2 => ?_, fun hb H2 e2 => ?_⟩
      · have hb : r ≤ sg.rank := by have := of_decide_eq_true hb; omega
        have g2 := g.ex e2
        refine g_popL (r := rSg) (o_fld rfl rd.i T.clT T.nS rfl g2) rd.s g2 fun sv H3 M3 hsv g3 hs3 hm3 => ?_
        cases hsv
        dsimp only [List.set]
        have rd3 := rd.sg hs3 hm3
        cases L with
        | nil => simp at ht
        | cons t L =>
        refine g_popL (r := rTr) (o_fld rfl rd3.i T.clT T.nT rfl g3) rd3.t g3 fun tv H4 M4 htv g4 hs4 hm4 => ?_
        dsimp only [List.set]
        have rd4 := rd3.tr hs4 hm4
        have hL : (t :: L).length ≤ 50001 := by rw [ht]; have := nops_le (sg :: Z); simp at this hs ⊢; omega
        refine g_if (b := decide (sg.w = [126])) (t_test (e_eqW (a := sg.w) (b := [126]) (e_var rfl rfl) (e_w rfl))) g4 (fun c H5 g5 => ?_) (fun c H5 g5 => ?_)
        · have hsg : sg = .neg := by
            have c := of_decide_eq_true c
            cases sg with
            | neg => rfl
            | opn => cases c
            | call z => exact absurd hb (by show ¬ r ≤ 0; omega)
            | op o => cases o <;> cases c
          subst hsg
          refine g_stkL (r := rTr) (u := .neg t) (o_fld rfl rd4.i T.clT T.nT rfl g5) rd4.t (by simp at hL; dsimp only; omega) g5 (fun H e Q q => (e_tup2 (a := .str "neg") (b := tv) (e_c rfl) (e_v rfl)) H e Q fun v H2 F g hv => q v H2 F g ⟨tv, hv, up (r := rTr) g.k htv⟩) fun H6 F6 M6 g6 e6 hs6 hm6 => ?_
          refine ⟨Z.length, by simp, .neg t :: L, Z, _, _, F6, M6, rfl, rfl, g6, (rd4.up e6).tr hs6 hm6, ?_, ?_, by simp at hs; omega, fun z hz => hc z (List.mem_cons_of_mem _ hz)⟩
          · rw [← he, settle_neg hb]
          · simpa [nops] using ht
        · obtain ⟨o, hsg⟩ : ∃ o, sg = .op o := by
            have c := of_decide_eq_false c
            cases sg with
            | neg => exact absurd rfl c
            | opn => exact absurd hb (by show ¬ r ≤ 0; omega)
            | call z => exact absurd hb (by show ¬ r ≤ 0; omega)
            | op o => exact ⟨o, rfl⟩
          subst hsg
          cases L with
          | nil => simp [nops] at ht
          | cons u L =>
          refine g_appL (o_fld rfl rd4.i T.clT T.nT rfl g5) ⟨_, rd4.t.choose_spec.1⟩ g5 ?_
          refine ⟨_, rfl, T.aN, S [o.c], _, rfl, rfl, node_get T o, ?_⟩
          refine g_popL (r := rTr) (o_fld rfl rd4.i T.clT T.nT rfl g5) rd4.t g5 fun uv H6 M6 huv g6 hs6 hm6 => ?_
          refine ⟨_, rfl, ?_⟩
          have rd6 := rd4.tr hs6 hm6
          refine g_tupL (r := rTr) (u := .op o u t) rd6.t (by simp at hL; dsimp only; omega) g6 (by simp) (fun F' p e hp => ⟨uv, tv, ⟨p, rfl, hp⟩, up (r := rTr) e huv, up (r := rTr) e htv⟩) fun H7 F7 M7 g7 e7 hs7 hm7 => ?_
          refine ⟨Z.length, by simp, .op o u t :: L, Z, _, _, F7, M7, rfl, rfl, g7, (rd6.up e7).tr hs7 hm7, ?_, ?_, by simp at hs; omega, fun z hz => hc z (List.mem_cons_of_mem _ hz)⟩
          · rw [← he, settle_op hb]
          · simp [nops] at ht ⊢; omega
      · have hb : ¬ r ≤ sg.rank := by have := of_decide_eq_false hb; omega
        refine q H2 K1 M1 (g.ex e2) ?_
        rw [← he]
        have : settle r L (sg :: Z) = (L, sg :: Z) := by unfold Pl.settle; rw [if_neg hb]
        rw [this]; exact rd
end
end F1

set_option Elab.async false
set_option linter.all false
set_option autoImplicit false
set_option maxRecDepth 100000
set_option maxHeartbeats 4000000
/-! # The reader takes words -/
namespace F1
open PySem L2 Y
open Pl hiding Sp Ss PA PB RA RW RP RS
theorem figs_one (c : Nat) : figs [c] = dig c := by
  rw [figs_eq]
  simp
theorem raise_no {ws : List W} {st : Rs} (h : (!st.o || (st.p || (!decide (((ws.getD st.k []).length : Int) = 1) || !figs (ws.getD st.k [])))) = true) : raiseR ws st = none := by
  unfold raiseR
  rw [List.getD_eq_getElem?_getD] at h
  cases e : ws[st.k]? with
  | none => rfl
  | some d =>
    rw [e] at h
    match d, h with
    | [], _ => rfl
    | _ :: _ :: _, _ => rfl
    | [c], h =>
      cases e2 : st.T with
      | nil => rfl
      | cons t T =>
        dsimp only
        rw [if_neg]
        intro z
        simp only [Option.getD_some, figs_one] at h
        revert h z
        cases st.o <;> cases st.p <;> cases dig c <;> simp
theorem raise_yes {ws : List W} {st : Rs} {t : Tr} {L : List Tr} (h : (!st.o || (st.p || (!decide (((ws.getD st.k []).length : Int) = 1) || !figs (ws.getD st.k [])))) = false) (ht : st.T = t :: L) :
    ∃ c, ws.getD st.k [] = [c] ∧ dig c = true ∧ st.o = true ∧ raiseR ws st = some ⟨st.k + 1, .pow t (c - 48) :: L, st.S, true, true⟩ := by
  unfold raiseR
  rw [List.getD_eq_getElem?_getD] at h ⊢
  cases e : ws[st.k]? with
  | none => rw [e] at h; revert h; cases st.o <;> cases st.p <;> simp
  | some d =>
    rw [e] at h
    match d, h with
    | [], h => revert h; cases st.o <;> cases st.p <;> simp
    | _ :: _ :: _, h =>
      revert h; cases st.o <;> cases st.p <;> simp
      intro z; omega
    | [c], h =>
      simp only [Option.getD_some, figs_one] at h ⊢
      refine ⟨c, rfl, ?_, ?_, ?_⟩
      · revert h; cases st.o <;> cases st.p <;> cases dig c <;> simp
      · revert h; cases st.o <;> cases st.p <;> cases dig c <;> simp
      · rw [ht]; dsimp only
        rw [if_pos]
        revert h; cases st.o <;> cases st.p <;> cases dig c <;> simp
section
variable {P : Program} {w : World} {K : PySem.W.Frag} {mg : Str → Option Value} {base : Heap}
theorem ok_TreeReader__close (T : Txt w K mg) : FnOk P w K mg base CX0 2 T.d_TreeReader__close.a T.d_TreeReader__close.fd ["self"] (spB T.cT (fun _ : Unit => []) (fun ws st _ => (st.o = true → st.T.length = nops st.S + 1) ∧ st.S.length ≤ 50000 ∧ (∀ z, Sg.call z ∈ st.S → isCall z = true)) fun ws st _ => closeR st) := by
  refine T.d_TreeReader__close.F.ok sc_TreeReader__close (fun vs H Q Ew h => ?_) (fun cdv A outer s H vs Q Ew hr h => ?_)
  · obtain ⟨_, _, _, _, _, _, rfl, _⟩ := h; rfl
  · obtain ⟨⟨⟩, Hk, M, A, ws, st, rfl, h1, h2, rd, ⟨ht, hs, hc⟩, q1, q2⟩ := h
    refine ⟨_, (pss_cons (ps_if (pt_not (pt_val (pe_fldK (K := K) rfl (pv 0) rfl))) (pss_one (ps_ret pe_bl)) pss_nil)
      (pss_cons (ps_expr (pe_meth (pv 0) T.clT T.m_TreeReader__settle (ok_TreeReader__settle T) (hr.mono (by decide)) T.d_TreeReader__settle.b .nil pass0 (pa_cons pe_int pa_nil)))
      (pss_cons (ps_if (pt_cmpR op_eq (pe_callB (c_lenK (K := K) rfl) (by rfl) T.n_len (by decide +kernel) (pa_cons (pe_fldK (K := K) rfl (pv 0) rfl) pa_nil)) pe_int (nomark _)) (pss_one (ps_ret pe_bl)) pss_nil)
      (pss_cons (ps_set (i := 1) sc_TreeReader__close.nd rfl (Or.inl rfl) (pe_bm0 PySem.F.plainAttrs_list PySem.F.slot_list_pop PySem.F.type_list_pop mt_pop (pe_fldK (K := K) rfl (pv 0) rfl)))
      (pss_cons (ps_if (pt_cmpR op_ne (pv 1) pe_str (nomark _)) (pss_one (ps_expr (pe_bm PySem.F.plainAttrs_list PySem.F.slot_list_append PySem.F.type_list_append mt_append (pe_fldK (K := K) rfl (pv 0) rfl) (pa_cons (pe_tup (pa_cons pe_str (pa_cons (pv 1) (pa_cons (pe_bm0 PySem.F.plainAttrs_list PySem.F.slot_list_pop PySem.F.type_list_pop mt_pop (pe_fldK (K := K) rfl (pv 0) rfl)) pa_nil)))) pa_nil)))) pss_nil)
      (pss_cons (ps_fld (pv 0) pe_bl rfl)
      (pss_one (ps_ret pe_bl)))))))), ?_⟩
    dsimp only at q1 q2
    have g0 := GM.refl h1 h2
    have eO : E rBl (tFld K (tVar 0) "_has_operand") (L2.start ["self", "opening"] [.ref A.a]) (jn Hk M) st.o := e_fld rfl (g0.jr rd.i) T.clT T.nO rfl rfl
    refine g_if (t_not (t_b eO)) g0 (fun c H1 g1 => ?_) (fun c H1 g1 => ?_)
    · exact q2 (by unfold closeR; rw [if_neg (by simpa using c)]) _ _ _ g1
    · have ho : st.o = true := by simpa using c
      have ht := ht ho
      obtain ⟨T', S', he, h3, h4, h5, h6⟩ := settle_wf (Nat.le_refl 1) st.S st.T ht
      unfold tNext
      dsimp only
      show tMeth _ _ _ _ _ _ _ _ _ _
      refine m_1 o_c rfl (g1.m _ _ rd.i) rfl ⟨1, Hk, M, A, ws, st, rfl, g1.g.f, g1.m, rd, Nat.le_refl _, ht, hs, hc, fun H2 F2 M2 gg rd2 => ?_⟩
      have g2 := g1.trans gg
      rw [he] at rd2
      dsimp only at rd2
      have eS : E (rLst rSg) (tFld K (tVar 0) "_signs") (L2.start ["self", "opening"] [.ref A.a]) (jn F2 M2) S'.reverse := by
        obtain ⟨vs, h3, h4⟩ := rd2.s
        exact e_fld rfl (g2.jr rd2.i) T.clT T.nS rfl ⟨A.sl, vs, rfl, g2.jr h3, h4⟩
      cases S' with
      | nil =>
        refine g_if (b := true) ((t_test (e_eqI (e_len (Kf := K) eS) e_int)).as rfl) g2 (fun c H1 g1 => ?_) (fun z => nomatch z)
        exact q2 (by unfold closeR; rw [if_pos ho, he]) _ _ _ g1
      | cons sg Z =>
        refine g_if (b := false) ((t_test (e_eqI (e_len (Kf := K) eS) e_int)).as (by rw [decide_eq_false]; simp; omega)) g2 (fun z => nomatch z) (fun c H3 g3 => ?_)
        dsimp only
        refine g_popL (r := rSg) (o_fld rfl rd2.i T.clT T.nS rfl g3) rd2.s g3 fun sv H4 M4 hsv g4 hs4 hm4 => ?_
        cases hsv
        have rd4 := rd2.sg hs4 hm4
        dsimp only [List.set, L2.start]
        have hrk := h6 sg Z rfl
        refine g_if (b := !decide (sg.w = [40])) (t_test (e_neW (a := sg.w) (b := [40]) (e_var rfl rfl) (e_w rfl))) g4 (fun c H5 g5 => ?_) (fun c H5 g5 => ?_)
        · obtain ⟨z, rfl⟩ : ∃ z, sg = .call z := by
            cases sg with
            | opn => cases c
            | call z => exact ⟨z, rfl⟩
            | neg => exact absurd hrk (by decide)
            | op q => have := (op_rank q).1; omega
          cases T' with
          | nil => simp at h3
          | cons t L =>
          refine g_appL (o_fld rfl rd4.i T.clT T.nT rfl g5) ⟨_, rd4.t.choose_spec.1⟩ g5 ?_
          refine ⟨_, rfl, ?_⟩
          refine g_popL (r := rTr) (o_fld rfl rd4.i T.clT T.nT rfl g5) rd4.t g5 fun uv H6 M6 huv g6 hs6 hm6 => ?_
          have rd6 := rd4.tr hs6 hm6
          have hL : L.length ≤ 60000 := by
            have := nops_le (.call z :: Z)
            simp at h3 h4 this; omega
          refine g_tupL (r := rTr) (u := .call z t) rd6.t hL g6 (by simp) (fun F' p e hp => ⟨uv, ⟨p, rfl, hp⟩, up (r := rTr) e huv⟩) fun H7 F7 M7 g7 e7 hs7 hm7 => ?_
          have rd7 := (rd6.up e7).tr hs7 hm7
          refine g_fset (fs' := rdF A ⟨st.k, .call z t :: L, Z, st.o, false⟩) o_c rfl rd7.i T.clT T.nP (by show 6 < 1000; decide) rfl g7 fun g8 => ?_
          exact q1 _ (by unfold closeR; rw [if_pos ho, he]) _ _ _ g8 (by have := rd7.fl st.k st.o false; rw [ho] at this ⊢; exact this)
        · have hsg : sg = .opn := by
            cases sg with
            | opn => rfl
            | call z =>
              have h0 : isCall z = true := hc z (h5 _ List.mem_cons_self)
              have : z = [40] := by have : decide ((Sg.call z).w = [40]) = true := by simpa using c
                                    exact of_decide_eq_true this
              subst this; cases h0
            | neg => exact absurd hrk (by decide)
            | op q => have := (op_rank q).1; omega
          subst hsg
          refine g_fset (fs' := rdF A ⟨st.k, T', Z, st.o, false⟩) o_c rfl rd4.i T.clT T.nP (by show 6 < 1000; decide) rfl g5 fun g8 => ?_
          exact q1 ⟨st.k, T', Z, true, false⟩ (by unfold closeR; rw [if_pos ho, he]) _ _ _ g8 (by have := rd4.fl st.k st.o false; rw [ho] at this ⊢; exact this)
theorem e_next (T : Txt w K mg) {σ : L2.St} {Hk M H K0 H0 M0 : Hp} {A : Ad} {ws : List W} {st : Rs} {Ew : XK} (hs : σ[0]? = some (some (.ref A.a))) (g : GM K0 H0 M0 Hk H M) (rd : RD T.cT ws Hk M A st) :
    E rW (tMeth T.cT "_next_word" (spNx T.cT) [] Ew (tVar 0) tNil) σ (jn Hk M) (ws.getD st.k []) := fun H e Q q =>
  m_0 hs (e _ _ (g.jr rd.i)) rfl ⟨jn Hk M, A, ws, st, rfl, e, g.jr rd.i, jn_l rd.w, q⟩
theorem ok_TreeReader__raise_to (T : Txt w K mg) : FnOk P w K mg base CX0 2 T.d_TreeReader__raise_to.a T.d_TreeReader__raise_to.fd ["self"] (spB T.cT (fun _ : Unit => []) (fun ws st _ => (st.o = true → st.T.length = nops st.S + 1) ∧ st.S.length ≤ 50000 ∧ (∀ u ∈ ws, u.length ≤ 100000)) fun ws st _ => raiseR ws st) := by
  refine T.d_TreeReader__raise_to.F.ok sc_TreeReader__raise_to (fun vs H Q Ew h => ?_) (fun cdv A outer s H vs Q Ew hr h => ?_)
  · obtain ⟨_, _, _, _, _, _, rfl, _⟩ := h; rfl
  · obtain ⟨⟨⟩, Hk, M, A, ws, st, rfl, h1, h2, rd, ⟨ht, hs, hu⟩, q1, q2⟩ := h
    refine ⟨_, (pss_cons (ps_set (i := 1) sc_TreeReader__raise_to.nd rfl (Or.inl rfl) (pe_meth0 (pv 0) T.clT T.m_TreeReader__next_word (ok_TreeReader__next_word T) (hr.mono (by decide)) T.d_TreeReader__next_word.b .nil pass0))
      (pss_cons (ps_if (PW.pt (pw_or (pt_not (pt_val (pe_fldK (K := K) rfl (pv 0) rfl))) (pw_or (pt_val (pe_fldK (K := K) rfl (pv 0) rfl)) (pw_or (pt_cmpR op_ne (pe_callB call_len_str (by rfl) T.n_len (by decide +kernel) (pa_cons (pv 1) pa_nil)) pe_int (nomark _)) (pw_or1 (pt_not (pt_val (pe_call (ok_is_digits T) (hr.mono (by decide)) (by rfl) T.g_is_digits T.d_is_digits.F.kp T.d_is_digits.b .nil pass0 (pa_cons (pv 1) pa_nil))))))))) (pss_one (ps_ret pe_bl)) pss_nil)
      (pss_cons (ps_fldaug (pv 0) pe_int in_add)
      (pss_cons (ps_expr (pe_bm PySem.F.plainAttrs_list PySem.F.slot_list_append PySem.F.type_list_append mt_append (pe_fldK (K := K) rfl (pv 0) rfl) (pa_cons (pe_tup (pa_cons pe_str (pa_cons (pe_bm0 PySem.F.plainAttrs_list PySem.F.slot_list_pop PySem.F.type_list_pop mt_pop (pe_fldK (K := K) rfl (pv 0) rfl)) (pa_cons (pe_callTy call_int_str (by rfl) T.n_int (by decide +kernel) (pa_cons (pv 1) pa_nil)) pa_nil)))) pa_nil)))
      (pss_cons (ps_fld (pv 0) pe_bl rfl)
      (pss_one (ps_ret pe_bl))))))), ?_⟩
    dsimp only at q1 q2
    have g0 := GM.refl h1 h2
    refine g_setM (r := rW) (x := ws.getD st.k []) (e_next T rfl g0 rd) g0 fun v H1 g1 hv => ?_
    cases hv
    dsimp only [List.set, L2.start]
    have hdl : (ws.getD st.k []).length ≤ 100000 := by
      rw [List.getD_eq_getElem?_getD]
      cases e : ws[st.k]? with
      | none => simp
      | some d => exact hu d (List.mem_of_getElem? e)
    have fO : ∀ {σ : L2.St}, σ[0]? = some (some (.ref A.a)) → E rBl (tFld K (tVar 0) "_has_operand") σ (jn Hk M) st.o := fun h => e_fld h (g0.jr rd.i) T.clT T.nO rfl rfl
    have fP : ∀ {σ : L2.St}, σ[0]? = some (some (.ref A.a)) → E rBl (tFld K (tVar 0) "_has_power") σ (jn Hk M) st.p := fun h => e_fld h (g0.jr rd.i) T.clT T.nP rfl rfl
    refine g_if (t_or (t_not (t_b (fO rfl))) fun _ => t_or (t_b (fP rfl)) fun _ => t_or (t_test (e_neI (e_lenW (a := ws.getD st.k []) (e_var rfl rfl) hdl) (e_int (n := 1)))) fun _ => t_not (t_b (e_c1 (r := rW) (x := ws.getD st.k []) (e_var rfl rfl) hdl))) g1 (fun c H2 g2 => ?_) (fun c H2 g2 => ?_)
    · exact q2 (raise_no c) _ _ _ g2
    · obtain ⟨t, L, hL⟩ : ∃ t L, st.T = t :: L := by
        have ho : st.o = true := by revert c; cases st.o <;> simp
        have := ht ho
        cases e : st.T with
        | nil => rw [e] at this; simp at this
        | cons t L => exact ⟨t, L, rfl⟩
      obtain ⟨c0, hd, hc0, ho, hR⟩ := raise_yes c hL
      have hlen := ht ho
      unfold tNext
      dsimp only
      refine g_faug (fs' := rdF A ⟨st.k + 1, st.T, st.S, st.o, st.p⟩) rfl rd.i T.clT T.nA rfl (by show 6 < 1000; decide) (by simp only [rdF]; rw [show ((st.k + 1 : Nat) : Int) = (st.k : Int) + 1 by omega]; rfl) g2 fun g3 => ?_
      have rd3 := rd.fl (st.k + 1) st.o st.p
      refine g_appL (o_fld rfl rd3.i T.clT T.nT rfl g3) ⟨_, rd3.t.choose_spec.1⟩ g3 ?_
      have rt3 := rd3.t
      dsimp only at rt3
      rw [hL] at rt3
      refine g_popL (r := rTr) (o_fld rfl rd3.i T.clT T.nT rfl g3) rt3 g3 fun uv H6 M6 huv g6 hs6 hm6 => ?_
      have rd6 := rd3.tr hs6 hm6
      have hcc : c0 = 48 + (c0 - 48) ∧ c0 - 48 ≤ 9 := by unfold dig at hc0; simp only [Bool.and_eq_true, decide_eq_true_eq] at hc0; omega
      refine ⟨_, rfl, S (ws.getD st.k []), ((c0 - 48 : Nat) : Int), rfl, ?_, ?_, ?_⟩
      · rw [hd]
        have := int_dig hcc.2
        rwa [← hcc.1] at this
      · rw [hd, S_len]; show 1 ≤ 640; decide
      refine g_tupL (r := rTr) (u := .pow t (c0 - 48)) rd6.t (by have := nops_le st.S; rw [hL] at hlen; simp at hlen ⊢; omega) g6 (by simp) (fun F' p e hp => ⟨uv, ⟨p, rfl, hp⟩, up (r := rTr) e huv⟩) fun H7 F7 M7 g7 e7 hs7 hm7 => ?_
      have rd7 := (rd6.up e7).tr hs7 hm7
      refine g_fset (fs' := rdF A ⟨st.k + 1, .pow t (c0 - 48) :: L, st.S, st.o, true⟩) o_c rfl rd7.i T.clT T.nP (by show 6 < 1000; decide) rfl g7 fun g8 => ?_
      exact q1 _ hR _ _ _ g8 (by have := rd7.fl (st.k + 1) st.o true; rw [ho] at this ⊢; exact this)
end
end F1

set_option Elab.async false
set_option linter.all false
set_option autoImplicit false
set_option maxRecDepth 100000
set_option maxHeartbeats 4000000
/-! # The reader reads -/
namespace F1
open PySem L2 Y
open Pl hiding Sp Ss PA PB RA RW RP RS
section
variable {P : Program} {w : World} {K : PySem.W.Frag} {mg : Str → Option Value} {base : Heap}
theorem ok_TreeReader__take_sign (T : Txt w K mg) : FnOk P w K mg base CX0 2 T.d_TreeReader__take_sign.a T.d_TreeReader__take_sign.fd ["self", "word"] (spB T.cT (fun q : Op => [V.str (S [q.c])]) (fun ws st _ => (st.o = true → st.T.length = nops st.S + 1) ∧ st.S.length ≤ 50000 ∧ (∀ z, Sg.call z ∈ st.S → isCall z = true) ∧ 1 ≤ st.k ∧ st.k ≤ ws.length ∧ (∀ u ∈ ws, u.length ≤ 100000)) fun ws st q => signR ws st q) := by
  refine T.d_TreeReader__take_sign.F.ok sc_TreeReader__take_sign (fun vs H Q Ew h => ?_) (fun cdv A outer s H vs Q Ew hr h => ?_)
  · obtain ⟨_, _, _, _, _, _, rfl, _⟩ := h; rfl
  · obtain ⟨q, Hk, M, A, ws, st, rfl, h1, h2, rd, ⟨ht, hs, hc, hk1, hk2, hu⟩, q1, q2⟩ := h
    refine ⟨_, (pss_cons (ps_if (pt_not (pt_val (pe_fldK (K := K) rfl (pv 0) rfl))) (pss_cons (ps_set (i := 2) sc_TreeReader__take_sign.nd rfl (Or.inl rfl) (pe_or (pe_cmpR op_eq (pe_fldK (K := K) rfl (pv 0) rfl) pe_int (nomark _)) (pe_one (pe_cmpR op_eq (pe_ix (ix_listK (K := K) rfl) (pe_fldK (K := K) rfl (pv 0) rfl) (pe_op op_sub (pe_fldK (K := K) rfl (pv 0) rfl) pe_int) (fun _ _ => rfl)) pe_str (nomark _)))))
      (pss_cons (ps_if (PW.pt (pw_or (pt_cmpR op_ne (pv 1) pe_str (nomark _)) (pw_or1 (pt_not (pt_val (pv 2)))))) (pss_one (ps_ret pe_bl)) pss_nil)
      (pss_cons (ps_expr (pe_bm PySem.F.plainAttrs_list PySem.F.slot_list_append PySem.F.type_list_append mt_append (pe_fldK (K := K) rfl (pv 0) rfl) (pa_cons (C8.pe_gc (v := .str "~") rfl T.g_NEGATIVE) pa_nil)))
      (pss_one (ps_ret pe_bl))))) pss_nil)
      (pss_cons (ps_expr (pe_meth (pv 0) T.clT T.m_TreeReader__settle (ok_TreeReader__settle T) (hr.mono (by decide)) T.d_TreeReader__settle.b .nil pass0 (pa_cons (pe_ix (ix_kdictK (K := K) (w := w) rfl rfl) (pe_glob (v := .ref T.aR) rfl T.g_RANKS rfl) (pv 1) (fun _ _ => rfl)) pa_nil)))
      (pss_cons (ps_expr (pe_bm PySem.F.plainAttrs_list PySem.F.slot_list_append PySem.F.type_list_append mt_append (pe_fldK (K := K) rfl (pv 0) rfl) (pa_cons (pv 1) pa_nil)))
      (pss_cons (ps_fld (pv 0) pe_bl rfl)
      (pss_one (ps_ret pe_bl)))))), ?_⟩
    dsimp only at q1 q2
    have g0 := GM.refl h1 h2
    have fO : ∀ {σ : L2.St}, σ[0]? = some (some (.ref A.a)) → E rBl (tFld K (tVar 0) "_has_operand") σ (jn Hk M) st.o := fun h => e_fld h (g0.jr rd.i) T.clT T.nO rfl rfl
    have fA : ∀ {σ : L2.St}, σ[0]? = some (some (.ref A.a)) → E rInt (tFld K (tVar 0) "_at") σ (jn Hk M) (st.k : Int) := fun h => e_fld h (g0.jr rd.i) T.clT T.nA rfl rfl
    have fW : ∀ {σ : L2.St}, σ[0]? = some (some (.ref A.a)) → E (rLst rW) (tFld K (tVar 0) "_words") σ (jn Hk M) ws := fun h => e_fld h (g0.jr rd.i) T.clT T.nW rfl (rd_len (jn_l rd.w))
    refine g_if (t_not (t_b (fO rfl))) g0 (fun c H1 g1 => ?_) (fun c H1 g1 => ?_)
    · have ho : st.o = false := by simpa using c
      refine g_setM (r := rBl) (x := fstA ws (st.k - 1)) ((e_orV (b := decide (ws[st.k - 1 - 1]? = some [40])) (e_eqI (fA rfl) (e_int (n := 1))) fun z => ?_).as ?_) g1 fun v H2 g2 hv => ?_
      · have z := of_decide_eq_false z
        have hk3 : st.k - 2 < ws.length := by omega
        refine (e_eqW (a := ws[st.k - 2]) (b := [40]) (e_at (Kf := K) (k := (st.k : Int) - 2) (fW rfl) (e_i0 (f := fun i j => i - j) (fA rfl) (e_int (n := 2))) (by omega) ?_) (e_w rfl)).as ?_
        · rw [show ((st.k : Int) - 2).toNat = st.k - 2 by omega]; simp [hk3]
        · rw [show st.k - 1 - 1 = st.k - 2 by omega, List.getElem?_eq_getElem hk3, Bool.eq_iff_iff]; simp
      · unfold fstA
        congr 1
        rw [Bool.eq_iff_iff, decide_eq_true_eq, decide_eq_true_eq]; omega
      cases hv
      dsimp only [List.set, L2.start]
      refine g_if (b := !decide ([q.c] = [45]) || !fstA ws (st.k - 1)) (t_or (t_test (e_neW (a := [q.c]) (b := [45]) (e_var rfl rfl) (e_w rfl))) fun _ => t_not (t_b (e_var rfl rfl))) g2 (fun c2 H3 g3 => ?_) (fun c2 H3 g3 => ?_)
      · refine q2 ?_ _ _ _ g3
        unfold signR
        rw [if_neg (by rw [ho]; simp), if_neg]
        rintro ⟨z1, z2⟩
        rw [decide_eq_true z1, z2] at c2
        cases c2
      · have hh : [q.c] = [45] ∧ fstA ws (st.k - 1) = true := by
          revert c2
          cases fstA ws (st.k - 1) <;> simp
        refine g_stkL (r := rSg) (u := .neg) (o_fld rfl rd.i T.clT T.nS rfl g3) rd.s (by omega) g3 (e_c rfl) fun H4 F4 M4 g4 e4 hs4 hm4 => ?_
        exact q1 _ (by unfold signR; rw [if_neg (by rw [ho]; simp), if_pos hh]) _ _ _ g4 ((rd.up e4).sg hs4 hm4)
    · have ho : st.o = true := by simpa using c
      have ht := ht ho
      obtain ⟨T', S', he, h3, h4, h5, h6⟩ := settle_wf (op_rank q).1 st.S st.T ht
      unfold tNext
      dsimp only
      show tMeth _ _ _ _ _ _ _ _ _ _
      refine m_1 (v := .int ((Sg.op q).rank : Int)) (fun Q qq => ⟨_, rfl, T.aR, S [q.c], _, rfl, rfl, rank_op T q, qq⟩) rfl (g1.m _ _ rd.i) rfl ⟨(Sg.op q).rank, Hk, M, A, ws, st, rfl, g1.g.f, g1.m, rd, (op_rank q).1, ht, hs, hc, fun H2 F2 M2 gg rd2 => ?_⟩
      have g2 := g1.trans gg
      rw [he] at rd2
      dsimp only at rd2
      refine g_stkL (r := rSg) (u := .op q) (o_fld rfl rd2.i T.clT T.nS rfl g2) rd2.s (by dsimp only; omega) g2 (e_var rfl rfl) fun H4 F4 M4 g4 e4 hs4 hm4 => ?_
      have rd4 := (rd2.up e4).sg hs4 hm4
      refine g_fset (fs' := rdF A ⟨st.k, T', .op q :: S', false, st.p⟩) o_c rfl rd4.i T.clT T.nO (by show 6 < 1000; decide) rfl g4 fun g5 => ?_
      exact q1 ⟨st.k, T', .op q :: S', false, st.p⟩ (by unfold signR; rw [if_pos ho, he]) _ _ _ g5 (rd4.fl st.k false st.p)
theorem in_signs2 {x : W} (h : Wd x) (h1 : x ≠ [40]) (h2 : x ≠ [41]) (h3 : x ≠ [94]) : (!(Builtin.Str.occurrences "+-*/^()" (S x) 0 ("+-*/^()" : Str).length 1).isEmpty) = (opOf x).isSome := by
  rcases h with ⟨h0, h⟩ | ⟨c, rfl, h⟩
  · rw [(run_word h0 h).2.2.2.1, PySem.W.occ_nil_of_no]
    · rfl
    · intro i hi
      cases x with
      | nil => exact absurd rfl h0
      | cons c r =>
        have hc := nsg_ne (h c List.mem_cons_self)
        cases e : Builtin.Str.subAt "+-*/^()" (S (c :: r)) i with
        | false => rfl
        | true =>
          unfold Builtin.Str.subAt at e
          have e := eq_of_beq e
          have hm : c ∈ ("+-*/^()" : Str).cps.extract i (i + (S (c :: r)).length) := by
            rw [e]; show c ∈ (c :: r).toArray; simp
          have hm : c ∈ ("+-*/^()" : Str).cps := by
            rw [Array.mem_def, Array.toList_extract] at hm
            exact Array.mem_def.mpr (List.mem_of_mem_drop (List.mem_of_mem_take hm))
          have : c ∈ [43, 45, 42, 47, 94, 40, 41] := by
            have : ("+-*/^()" : Str).cps = #[43, 45, 42, 47, 94, 40, 41] := by decide +kernel
            rw [this] at hm; simpa using hm
          simp only [List.mem_cons, List.mem_nil_iff, or_false] at this
          omega
  · unfold sgn at h
    have h := of_decide_eq_true h
    simp only [List.mem_cons, List.mem_nil_iff, or_false] at h
    rcases h with rfl | rfl | rfl | rfl | rfl | rfl | rfl
    · decide +kernel
    · decide +kernel
    · decide +kernel
    · decide +kernel
    · exact absurd rfl h3
    · exact absurd rfl h1
    · exact absurd rfl h2
end
end F1

set_option Elab.async false
set_option linter.all false
set_option autoImplicit false
set_option maxRecDepth 100000
set_option maxHeartbeats 4000000
/-! # The reader, from word to word -/
namespace F1
open PySem L2 Y
open Pl hiding Sp Ss PA PB RA RW RP RS
section
variable {P : Program} {w : World} {K : PySem.W.Frag} {mg : Str → Option Value} {base : Heap}
theorem ok_TreeReader__take (T : Txt w K mg) : FnOk P w K mg base CX0 3 T.d_TreeReader__take.a T.d_TreeReader__take.fd ["self", "word"] (spB T.cT (fun x : W => [V.str (S x)]) (fun ws st x => Wd x ∧ x.length ≤ 100000 ∧ Wf st (st.k - 1) ∧ st.k ≤ 40000 ∧ 1 ≤ st.k ∧ st.k ≤ ws.length ∧ (∀ u ∈ ws, u.length ≤ 100000)) takeR) := by
  refine T.d_TreeReader__take.F.ok sc_TreeReader__take (fun vs H Q Ew h => ?_) (fun cdv A outer s H vs Q Ew hr h => ?_)
  · obtain ⟨_, _, _, _, _, _, rfl, _⟩ := h; rfl
  · obtain ⟨x, Hk, M, A, ws, st, rfl, h1, h2, rd, ⟨hx, hxl, wf, hz, hk1, hk2, hu⟩, q1, q2⟩ := h
    refine ⟨_, (pss_cons (ps_if (pt_cmpR op_eq (pv 1) pe_str (nomark _)) (pss_one (ps_ret (pe_meth (pv 0) T.clT T.m_TreeReader__open (ok_TreeReader__open T) (hr.mono (by decide)) T.d_TreeReader__open.b .nil pass0 (pa_cons (pv 1) pa_nil)))) pss_nil)
      (pss_cons (ps_if (pt_cmpR op_eq (pv 1) pe_str (nomark _)) (pss_one (ps_ret (pe_meth0 (pv 0) T.clT T.m_TreeReader__close (ok_TreeReader__close T) (hr.mono (by decide)) T.d_TreeReader__close.b .nil pass0))) pss_nil)
      (pss_cons (ps_if (pt_cmpR op_eq (pv 1) pe_str (nomark _)) (pss_one (ps_ret (pe_meth0 (pv 0) T.clT T.m_TreeReader__raise_to (ok_TreeReader__raise_to T) (hr.mono (by decide)) T.d_TreeReader__raise_to.b .nil pass0))) pss_nil)
      (pss_cons (ps_if (pt_cmpR op_in_str (pv 1) (C8.pe_gc (v := .str "+-*/^()") rfl T.g_SIGNS) (by rfl)) (pss_one (ps_ret (pe_meth (pv 0) T.clT T.m_TreeReader__take_sign (ok_TreeReader__take_sign T) (hr.mono (by decide)) T.d_TreeReader__take_sign.b .nil pass0 (pa_cons (pv 1) pa_nil)))) pss_nil)
      (pss_cons (ps_if (pt_cmpR op_in_seq (pv 1) (pe_glob (v := .ref T.aC) rfl T.g_CALL_NAMES rfl) (by rfl)) (pss_cons (ps_if (pt_cmpR op_ne (pe_meth0 (pv 0) T.clT T.m_TreeReader__next_word (ok_TreeReader__next_word T) (hr.mono (by decide)) T.d_TreeReader__next_word.b .nil pass0) pe_str (nomark _)) (pss_one (ps_ret pe_bl)) pss_nil)
      (pss_cons (ps_fldaug (pv 0) pe_int in_add)
      (pss_one (ps_ret (pe_meth (pv 0) T.clT T.m_TreeReader__open (ok_TreeReader__open T) (hr.mono (by decide)) T.d_TreeReader__open.b .nil pass0 (pa_cons (pv 1) pa_nil)))))) pss_nil)
      (pss_one (ps_ret (pe_meth (pv 0) T.clT T.m_TreeReader__take_atom (ok_TreeReader__take_atom T) (hr.mono (by decide)) T.d_TreeReader__take_atom.b .nil pass0 (pa_cons (pv 1) pa_nil))))))))), ?_⟩
    have g0 := GM.refl h1 h2
    have hS : st.S.length ≤ 50000 := by have := wf.s; omega
    have hT : st.T.length ≤ 50000 := by have h2 := nops_le st.S; have h3 := wf.s; have h := wf.t; split at h <;> omega
    have ht1 : st.o = true → st.T.length = nops st.S + 1 := fun ho => by rw [wf.t, if_pos ho]
    have v1 : ∀ {F : Hp}, E rW (tVar 1) (L2.start ["self", "word"] [.ref A.a, .str (S x)]) F x := e_var rfl rfl
    have o1 : ∀ {H : Hp} (Q : VK), Q (.str (S x)) H → tVar 1 (L2.start ["self", "word"] [.ref A.a, .str (S x)]) H Q := fun Q q => ⟨_, rfl, q⟩
    refine g_if (b := decide (x = [40])) (t_test (e_eqW v1 (e_w rfl))) g0 (fun c H1 g1 => ?_) (fun c H1 g1 => ?_)
    · have c := of_decide_eq_true c
      subst c
      have e : takeR ws st [40] = opnR st .opn := by unfold takeR; rw [if_pos rfl]
      show tMeth _ _ _ _ _ _ _ _ _ _
      exact m_1 o1 rfl (g1.m _ _ rd.i) rfl ⟨.opn, Hk, M, A, ws, st, rfl, g1.g.f, g1.m, rd, hS, fun st' e2 H' F M' gg => q1 st' (by rw [e]; exact e2) H' F M' (g1.trans gg), fun e2 H' F M' gg => q2 (by rw [e]; exact e2) H' F M' (g1.trans gg)⟩
    have c0 := of_decide_eq_false c
    refine g_if (b := decide (x = [41])) (t_test (e_eqW v1 (e_w rfl))) g1 (fun c H2 g2 => ?_) (fun c H2 g2 => ?_)
    · have c := of_decide_eq_true c
      subst c
      have e : takeR ws st [41] = closeR st := by unfold takeR; rw [if_neg c0, if_pos rfl]
      show tMeth _ _ _ _ _ _ _ _ _ _
      exact m_0 rfl (g2.m _ _ rd.i) rfl ⟨(), Hk, M, A, ws, st, rfl, g2.g.f, g2.m, rd, ⟨ht1, hS, wf.c⟩, fun st' e2 H' F M' gg => q1 st' (by rw [e]; exact e2) H' F M' (g2.trans gg), fun e2 H' F M' gg => q2 (by rw [e]; exact e2) H' F M' (g2.trans gg)⟩
    have c1 := of_decide_eq_false c
    refine g_if (b := decide (x = [94])) (t_test (e_eqW v1 (e_w rfl))) g2 (fun c H3 g3 => ?_) (fun c H3 g3 => ?_)
    · have c := of_decide_eq_true c
      subst c
      have e : takeR ws st [94] = raiseR ws st := by unfold takeR; rw [if_neg c0, if_neg c1, if_pos rfl]
      show tMeth _ _ _ _ _ _ _ _ _ _
      exact m_0 rfl (g3.m _ _ rd.i) rfl ⟨(), Hk, M, A, ws, st, rfl, g3.g.f, g3.m, rd, ⟨ht1, hS, hu⟩, fun st' e2 H' F M' gg => q1 st' (by rw [e]; exact e2) H' F M' (g3.trans gg), fun e2 H' F M' gg => q2 (by rw [e]; exact e2) H' F M' (g3.trans gg)⟩
    have c2 := of_decide_eq_false c
    have ein : ∀ {F : Hp}, E rBl (tOp (fun x y H Q => ∃ i j, x = V.str i ∧ y = V.str j ∧ Q (.bl (!(Builtin.Str.occurrences j i 0 j.length 1).isEmpty)) H) (tVar 1) (tC (.str "+-*/^()"))) (L2.start ["self", "word"] [.ref A.a, .str (S x)]) F (opOf x).isSome := fun {F} H e Q q =>
      ⟨_, rfl, _, _, rfl, rfl, q _ H F (Grow.refl e) (by show V.bl _ = V.bl _; rw [in_signs2 hx c0 c1 c2])⟩
    refine g_if (t_test ein) g3 (fun c H4 g4 => ?_) (fun c H4 g4 => ?_)
    · obtain ⟨q, hq⟩ := Option.isSome_iff_exists.mp c
      have e : takeR ws st x = signR ws st q := by unfold takeR; rw [if_neg c0, if_neg c1, if_neg c2, hq]
      have hxq := op_of hq
      show tMeth _ _ _ _ _ _ _ _ _ _
      exact m_1 o1 rfl (g4.m _ _ rd.i) rfl ⟨q, Hk, M, A, ws, st, by rw [hxq], g4.g.f, g4.m, rd, ⟨ht1, hS, wf.c, hk1, hk2, hu⟩, fun st' e2 H' F M' gg => q1 st' (by rw [e]; exact e2) H' F M' (g4.trans gg), fun e2 H' F M' gg => q2 (by rw [e]; exact e2) H' F M' (g4.trans gg)⟩
    have hq : opOf x = none := by
      cases e : opOf x with
      | none => rfl
      | some q => rw [e] at c; cases c
    refine g_if (b := isCall x) (t_test (e_inK (l := calls) (neg := false) v1 fun H => by have := T.kC H; rwa [S_map calls callS calls_S] at this)) g4 (fun c H5 g5 => ?_) (fun c H5 g5 => ?_)
    · refine g_if (t_test (e_neW (e_next T rfl g5 rd) (e_w (a := [40]) rfl))) g5 (fun cc H6 g6 => ?_) (fun cc H6 g6 => ?_)
      · refine q2 ?_ _ _ _ g6
        unfold takeR
        rw [if_neg c0, if_neg c1, if_neg c2, hq]
        dsimp only
        rw [if_pos c, if_neg]
        intro z
        rw [List.getD_eq_getElem?_getD, z] at cc
        cases cc
      · have hn : ws[st.k]? = some [40] := by
          have : ws.getD st.k [] = [40] := by simpa using cc
          rw [List.getD_eq_getElem?_getD] at this
          cases e : ws[st.k]? with
          | none => rw [e] at this; cases this
          | some d => rw [e] at this; rw [← this]; rfl
        have e : takeR ws st x = opnR ⟨st.k + 1, st.T, st.S, st.o, st.p⟩ (.call x) := by
          unfold takeR
          rw [if_neg c0, if_neg c1, if_neg c2, hq]
          dsimp only
          rw [if_pos c, if_pos hn]
        unfold tNext
        dsimp only
        refine g_faug (fs' := rdF A ⟨st.k + 1, st.T, st.S, st.o, st.p⟩) rfl rd.i T.clT T.nA rfl (by show 6 < 1000; decide) (by simp only [rdF]; rw [show ((st.k + 1 : Nat) : Int) = (st.k : Int) + 1 by omega]; rfl) g6 fun g7 => ?_
        have rd7 := rd.fl (st.k + 1) st.o st.p
        dsimp only
        show tMeth _ _ _ _ _ _ _ _ _ _
        exact m_1 o1 rfl (g7.m _ _ rd7.i) rfl ⟨.call x, Hk, _, A, ws, ⟨st.k + 1, st.T, st.S, st.o, st.p⟩, rfl, g7.g.f, g7.m, rd7, hS, fun st' e2 H' F M' gg => q1 st' (by rw [e]; exact e2) H' F M' (g7.trans gg), fun e2 H' F M' gg => q2 (by rw [e]; exact e2) H' F M' (g7.trans gg)⟩
    · have e : takeR ws st x = atomR st x := by
        unfold takeR
        rw [if_neg c0, if_neg c1, if_neg c2, hq]
        dsimp only
        rw [if_neg (by rw [c]; simp)]
      unfold tNext
      dsimp only
      show tMeth _ _ _ _ _ _ _ _ _ _
      exact m_1 o1 rfl (g5.m _ _ rd.i) rfl ⟨x, Hk, M, A, ws, st, rfl, g5.g.f, g5.m, rd, ⟨hT, hxl⟩, fun st' e2 H' F M' gg => q1 st' (by rw [e]; exact e2) H' F M' (g5.trans gg), fun e2 H' F M' gg => q2 (by rw [e]; exact e2) H' F M' (g5.trans gg)⟩
def rd0 : Rs := ⟨0, [], [], false, false⟩
def spRi (cT : Addr) : Sp := fun vs H Q _ => ∃ (Hk M : Hp) (a dx : Addr) (v : V) (ws : List W), vs = [.ref a, v] ∧ Ex Hk (sub H M) ∧ Ex M H ∧ M a = some (.ins cT dx []) ∧ rLst rW Hk v ws ∧ ∀ H' F M' A, A.a = a → GM Hk H M F H' M' → RD cT ws F M' A rd0 → Q .non H'
def spWt (cT : Addr) : Sp := fun vs H Q _ => ∃ (Hk M : Hp) (A : Ad) (ws : List W), vs = [.ref A.a] ∧ Ex Hk (sub H M) ∧ Ex M H ∧ RD cT ws Hk M A rd0 ∧ ws.length ≤ 30000 ∧ (∀ u ∈ ws, Wd u ∧ u.length ≤ 100000) ∧ ∀ v H' F M', GM Hk H M F H' M' → rOpt rTr F v (run true [] [] false false ws) → Q v H'
theorem ok_TreeReader_init (T : Txt w K mg) : FnOk P w K mg base CX0 1 T.d_TreeReader_init.a T.d_TreeReader_init.fd ["self", "words"] (spRi T.cT) := by
  refine T.d_TreeReader_init.F.ok sc_TreeReader_init (fun vs H Q Ew h => ?_) (fun cdv A outer s H vs Q Ew hr h => ?_)
  · obtain ⟨_, _, _, _, _, _, rfl, _⟩ := h; rfl
  · obtain ⟨Hk, M, a, dx, v, ws, rfl, h1, h2, hi, hw, q⟩ := h
    refine ⟨_, (pss_cons (ps_fld (pv 0) (pe_callTy (c_listK (K := K) rfl) (by rfl) T.n_list (by decide +kernel) (pa_cons (pv 1) pa_nil)) rfl)
      (pss_cons (ps_fld (pv 0) pe_int rfl)
      (pss_cons (ps_fld (pv 0) (pe_lst pa_nil) rfl)
      (pss_cons (ps_fld (pv 0) (pe_lst pa_nil) rfl)
      (pss_cons (ps_fld (pv 0) pe_bl rfl)
      (pss_one (ps_fld (pv 0) pe_bl rfl))))))), ?_⟩
    have g0 := GM.refl h1 h2
    show tCB _ _ _ _ _
    refine g_e (en_list (Kf := K) (r := rW) (e_var hw rfl)).e g0 fun v1 H1 F1 g1 e1 hv1 => ?_
    obtain ⟨wl, vs1, rfl, hwl, hp1⟩ := hv1
    refine ⟨_, rfl, a, T.cT, dx, [], rfl, g1.m _ _ hi, T.clT, T.nW, by show 0 < 1000; decide, ?_⟩
    have g2 := g1.upd (u' := .ins T.cT dx (putF "_words" (.ref wl) [])) hi
    refine g_fset (fs' := [("_words", .ref wl), ("_at", .int 0)]) o_c rfl upd_same T.clT T.nA (by show 1 < 1000; decide) rfl g2 fun g3 => ?_
    refine ⟨Nat.zero_le _, fun tl htl => ?_⟩
    have g4 := g3.new (u := .lst []) htl
    have nt : a ≠ tl := fun z => by subst z; rw [upd_same] at htl; cases htl
    refine ⟨_, rfl, a, T.cT, dx, [("_words", .ref wl), ("_at", .int 0)], rfl, (upd_ne nt).trans upd_same, T.clT, T.nT, by show 2 < 1000; decide, ?_⟩
    have g5 := g4.upd (o := a) (u' := .ins T.cT dx [("_words", .ref wl), ("_at", .int 0), ("_trees", .ref tl)]) ((upd_ne nt).trans upd_same)
    refine ⟨Nat.zero_le _, fun sl hsl => ?_⟩
    have g6 := g5.new (u := .lst []) hsl
    have ns : a ≠ sl := fun z => by subst z; have := (g5.m a _ upd_same).symm.trans hsl; cases this
    have nts : tl ≠ sl := fun z => by subst z; have := (g5.m tl (.lst []) ((upd_ne (Ne.symm nt)).trans upd_same)).symm.trans hsl; cases this
    refine ⟨_, rfl, a, T.cT, dx, [("_words", .ref wl), ("_at", .int 0), ("_trees", .ref tl)], rfl, g6.m _ _ ((upd_ne ns).trans upd_same), T.clT, T.nS, by show 3 < 1000; decide, ?_⟩
    have g7 := g6.upd (o := a) (u' := .ins T.cT dx [("_words", .ref wl), ("_at", .int 0), ("_trees", .ref tl), ("_signs", .ref sl)]) ((upd_ne ns).trans upd_same)
    refine g_fset (fs' := [("_words", .ref wl), ("_at", .int 0), ("_trees", .ref tl), ("_signs", .ref sl), ("_has_operand", .bl false)]) o_c rfl upd_same T.clT T.nO (by show 4 < 1000; decide) rfl g7 fun g8 => ?_
    refine g_fset (fs' := rdF ⟨a, wl, tl, sl, dx⟩ rd0) o_c rfl upd_same T.clT T.nP (by show 5 < 1000; decide) rfl g8 fun g9 => ?_
    refine q _ _ _ ⟨a, wl, tl, sl, dx⟩ rfl g9 ⟨upd_same, by rw [hwl, ws_of hp1], ⟨[], ?_, .nil⟩, ⟨[], ?_, .nil⟩, nt, ns, nts⟩
    · rw [upd_ne (Ne.symm nt), upd_ne (Ne.symm nt), upd_ne (Ne.symm nt), upd_ne nts, upd_ne (Ne.symm nt), upd_same]
    · rw [upd_ne (Ne.symm ns), upd_ne (Ne.symm ns), upd_ne (Ne.symm ns), upd_same]
end
end F1

set_option Elab.async false
set_option linter.all false
set_option autoImplicit false
set_option maxRecDepth 100000
set_option maxHeartbeats 4000000
/-! # Reading a text -/
namespace F1
open PySem L2 Y
open Pl hiding Sp Ss PA PB RA RW RP RS
section
variable {P : Program} {w : World} {K : PySem.W.Frag} {mg : Str → Option Value} {base : Heap}
theorem ok_TreeReader_whole_tree (T : Txt w K mg) : FnOk P w K mg base CX0 4 T.d_TreeReader_whole_tree.a T.d_TreeReader_whole_tree.fd ["self"] (spWt T.cT) := by
  refine T.d_TreeReader_whole_tree.F.ok sc_TreeReader_whole_tree (fun vs H Q Ew h => ?_) (fun cdv A outer s H vs Q Ew hr h => ?_)
  · obtain ⟨_, _, _, _, rfl, _⟩ := h; rfl
  · obtain ⟨Hk, M, A, ws, rfl, h1, h2, rd, hz, hu, q⟩ := h
    refine ⟨_, (pss_cons (ps_while PassesOwn.never (pt_cmpR op_lt (pe_fldK (K := K) rfl (pv 0) rfl) (pe_callB (c_lenK (K := K) rfl) (by rfl) T.n_len (by decide +kernel) (pa_cons (pe_fldK (K := K) rfl (pv 0) rfl) pa_nil)) (nomark _)) (pss_cons (ps_set (i := 1) sc_TreeReader_whole_tree.nd rfl (Or.inl rfl) (pe_ix (ix_listK (K := K) rfl) (pe_fldK (K := K) rfl (pv 0) rfl) (pe_fldK (K := K) rfl (pv 0) rfl) (fun _ _ => rfl)))
      (pss_cons (ps_fldaug (pv 0) pe_int in_add)
      (pss_one (ps_if (pt_not (pt_val (pe_meth (pv 0) T.clT T.m_TreeReader__take (ok_TreeReader__take T) (hr.mono (by decide)) T.d_TreeReader__take.b .nil pass0 (pa_cons (pv 1) pa_nil)))) (pss_one (ps_ret pe_non)) pss_nil)))))
      (pss_cons (ps_if (pt_not (pt_val (pe_fldK (K := K) rfl (pv 0) rfl))) (pss_one (ps_ret pe_non)) pss_nil)
      (pss_cons (ps_expr (pe_meth (pv 0) T.clT T.m_TreeReader__settle (ok_TreeReader__settle T) (hr.mono (by decide)) T.d_TreeReader__settle.b .nil pass0 (pa_cons pe_int pa_nil)))
      (pss_cons (ps_if (pt_cmpR op_gt (pe_callB (c_lenK (K := K) rfl) (by rfl) T.n_len (by decide +kernel) (pa_cons (pe_fldK (K := K) rfl (pv 0) rfl) pa_nil)) pe_int (nomark _)) (pss_one (ps_ret pe_non)) pss_nil)
      (pss_one (ps_ret (pe_ix (ix_listK (K := K) rfl) (pe_fldK (K := K) rfl (pv 0) rfl) pe_int (fun _ _ => rfl)))))))), ?_⟩
    have g0 := GM.refl h1 h2
    refine s_while (fun m σ' H' => ∃ (st : Rs) (n : Nat) (b : Option V) (K1 M1 : Hp), σ' = [some (.ref A.a), b] ∧ m = ws.length - st.k ∧ GM Hk H M K1 H' M1 ∧ RD T.cT ws K1 M1 A st ∧ Wf st n ∧ n ≤ st.k ∧ n ≤ ws.length ∧ runA ws st = runA ws rd0) _
      ⟨rd0, 0, none, _, _, rfl, rfl, g0, rd, ⟨rfl, Nat.le_refl _, fun _ z => (nomatch z)⟩, Nat.zero_le _, Nat.zero_le _, rfl⟩ ?_
    rintro m σ' H' ⟨st, n, b, K1, M1, rfl, rfl, g, rd, wf, hn1, hn2, hrun⟩
    have fA : ∀ {b : Option V}, E rInt (tFld K (tVar 0) "_at") [some (.ref A.a), b] (jn K1 M1) (st.k : Int) := e_fld rfl (g.jr rd.i) T.clT T.nA rfl rfl
    have fW : ∀ {b : Option V}, E (rLst rW) (tFld K (tVar 0) "_words") [some (.ref A.a), b] (jn K1 M1) ws := e_fld rfl (g.jr rd.i) T.clT T.nW rfl (rd_len (jn_l rd.w))
    refine ⟨decide ((st.k : Int) < ws.length), jn K1 M1, g.jn, t_test (e_b0 (p := fun i j => decide (i < j)) fA (e_len (Kf := K) fW)), fun hb H1 e1 => ?_, fun hb H1 e1 => ?_⟩
    · have hk : st.k < ws.length := by have := of_decide_eq_true hb; omega
      have hx : ws[st.k]? = some ws[st.k] := by simp [hk]
      obtain ⟨hwd, hwl⟩ := hu ws[st.k] (List.getElem_mem hk)
      refine g_setM (r := rW) (x := ws[st.k]) (e_at (Kf := K) fW fA (by omega) (by simp [hk])) (g.ex e1) fun v H2 g2 hv => ?_
      cases hv
      dsimp only [List.set]
      refine g_faug (fs' := rdF A ⟨st.k + 1, st.T, st.S, st.o, st.p⟩) rfl rd.i T.clT T.nA rfl (by show 6 < 1000; decide) (by simp only [rdF]; rw [show ((st.k + 1 : Nat) : Int) = (st.k : Int) + 1 by omega]; rfl) g2 fun g3 => ?_
      have rd3 := rd.fl (st.k + 1) st.o st.p
      have hstep := run_step wf hx
      rw [hrun] at hstep
      dsimp only
      show tMeth _ _ _ _ _ _ _ _ _ _
      refine m_1 (v := .str (S ws[st.k])) (fun Q q => ⟨_, rfl, q⟩) rfl (g3.m _ _ rd3.i) rfl ⟨ws[st.k], K1, _, A, ws, ⟨st.k + 1, st.T, st.S, st.o, st.p⟩, rfl, g3.g.f, g3.m, rd3, ⟨hwd, hwl, ⟨wf.t, by have := wf.s; dsimp only; omega, wf.c⟩, by dsimp only; omega, by dsimp only; omega, hk, fun u hm => (hu u hm).2⟩, fun st' e H4 F4 M4 gg rd4 => ?_, fun e H4 F4 M4 gg => ?_⟩
      · have g4 := g3.trans gg
        rw [e, Option.bind_some] at hstep
        obtain ⟨wf4, hk4⟩ := takeR_wf (st := ⟨st.k + 1, st.T, st.S, st.o, st.p⟩) (n := n) ⟨wf.t, wf.s, wf.c⟩ (fun _ _ _ => trivial) e
        refine ⟨true, rfl, ?_⟩
        dsimp only
        rw [if_neg (by decide)]
        have hk4 : st.k + 1 ≤ st'.k := hk4
        exact ⟨ws.length - st'.k, by omega, st', n + 1, _, F4, M4, rfl, rfl, g4, rd4, wf4, by omega, by omega, hstep.symm⟩
      · rw [e, Option.bind_none] at hstep
        refine ⟨false, rfl, ?_⟩
        dsimp only
        rw [if_pos (by decide)]
        exact q .non H4 F4 M4 (g3.trans gg) (by show rOpt rTr F4 .non (runA ws rd0); rw [hstep]; rfl)
    · have hk : ws.length ≤ st.k := by have := of_decide_eq_false hb; omega
      have hend : runA ws rd0 = if st.o then (match Pl.settle 1 st.T st.S with
          | (t :: _, []) => some t
          | _ => none) else none := by
        rw [← hrun]
        unfold runA
        rw [List.drop_eq_nil_of_le hk]
        unfold Pl.run; rfl
      have g1 := g.ex e1
      have fO : E rBl (tFld K (tVar 0) "_has_operand") [some (.ref A.a), b] (jn K1 M1) st.o := e_fld rfl (g.jr rd.i) T.clT T.nO rfl rfl
      refine g_if (t_not (t_b fO)) g1 (fun c H2 g2 => ?_) (fun c H2 g2 => ?_)
      · have ho : st.o = false := by simpa using c
        exact q .non H2 K1 M1 g2 (by show rOpt rTr K1 .non (runA ws rd0); rw [hend, ho]; rfl)
      · have ho : st.o = true := by simpa using c
        have ht : st.T.length = nops st.S + 1 := by rw [wf.t, if_pos ho]
        obtain ⟨T', S', he, h3, h4, h5, h6⟩ := settle_wf (Nat.le_refl 1) st.S st.T ht
        have hs := wf.s
        rw [ho, he] at hend
        unfold tNext
        dsimp only
        show tMeth _ _ _ _ _ _ _ _ _ _
        refine m_1 o_c rfl (g2.m _ _ rd.i) rfl ⟨1, K1, M1, A, ws, st, rfl, g2.g.f, g2.m, rd, Nat.le_refl _, ht, by omega, wf.c, fun H3 F3 M3 gg rd3 => ?_⟩
        have g3 := g2.trans gg
        rw [he] at rd3
        dsimp only at rd3
        have eS : E (rLst rSg) (tFld K (tVar 0) "_signs") [some (.ref A.a), b] (jn F3 M3) S'.reverse := by
          obtain ⟨vs, h3, h4⟩ := rd3.s
          exact e_fld rfl (g3.jr rd3.i) T.clT T.nS rfl ⟨A.sl, vs, rfl, g3.jr h3, h4⟩
        cases S' with
        | cons sg Z =>
          refine g_if (b := true) ((t_test (e_b0 (p := fun i j => decide (i > j)) (e_len (Kf := K) eS) e_int)).as (by rw [decide_eq_true]; simp)) g3 (fun c H4 g4 => ?_) (fun z => nomatch z)
          exact q .non H4 F3 M3 g4 (by show rOpt rTr F3 .non (runA ws rd0); rw [hend]; cases T' <;> rfl)
        | nil =>
          refine g_if (b := false) ((t_test (e_b0 (p := fun i j => decide (i > j)) (e_len (Kf := K) eS) e_int)).as rfl) g3 (fun z => nomatch z) (fun c H4 g4 => ?_)
          match T', h3, rd3, hend with
          | [t], h3, rd3, hend =>
            obtain ⟨vs, hm, hp⟩ := rd3.t
            cases hp with
            | cons hp t2 =>
              cases t2
              refine ⟨.ref A.a, rfl, A.a, T.cT, A.dx, _, .ref A.tl, rfl, g4.m _ _ rd3.i, T.clT, T.nT, rfl, ?_⟩
              refine ⟨A.tl, _, 0, _, rfl, rfl, sq_of (g4.m _ _ hm), rfl, ?_⟩
              exact q _ H4 F3 M3 g4 (by show rOpt rTr F3 _ (runA ws rd0); rw [hend]; exact hp)
theorem ok_read_tree (T : Txt w K mg) : FnOk P w K mg base CX0 5 T.d_read_tree.a T.d_read_tree.fd ["text"] (sp1 rW (rOpt rTr) (fun x => x.length ≤ 30000) Pl.read) := by
  refine T.d_read_tree.F.ok sc_read_tree (fun vs H Q Ew h => ?_) (fun cdv A outer s H vs Q Ew hr h => ?_)
  · obtain ⟨_, _, v, x, rfl, _⟩ := h; rfl
  · obtain ⟨Hk, ex, v, x, rfl, hv, hx, q⟩ := h
    refine ⟨_, (pss_cons (ps_set (i := 1) sc_read_tree.nd rfl (Or.inl rfl) (pe_call (ok_split_words T) (hr.mono (by decide)) (by rfl) T.g_split_words T.d_split_words.F.kp T.d_split_words.b .nil pass0 (pa_cons (pv 0) pa_nil)))
      (pss_cons (ps_if (pt_cmpR op_isN (pv 1) pe_non (nomark _)) (pss_one (ps_ret pe_non)) pss_nil)
      (pss_one (ps_ret (pe_meth0 (pe_make T.mk_TreeReader (ok_TreeReader_init T) (hr.mono (by decide)) rfl T.g_TreeReader T.d_TreeReader_init.b .nil pass0 (pa_cons (pv 1) pa_nil)) T.clT T.m_TreeReader_whole_tree (ok_TreeReader_whole_tree T) (hr.mono (by decide)) T.d_TreeReader_whole_tree.b .nil pass0))))), ?_⟩
    have g0 := GM.start ex
    refine g_set (r := rOpt (rLst rW)) (x := toks x) (e_c1 (e_var hv rfl) (by omega)) g0 fun v1 H1 F1 g1 e1 hv1 => ?_
    dsimp only [List.set, L2.start]
    cases e : toks x with
    | none =>
      rw [e] at hv1
      cases hv1
      refine ⟨_, rfl, rfl, true, rfl, ?_⟩
      dsimp only
      rw [if_pos rfl]
      exact q .non H1 F1 g1.done (by show rOpt rTr F1 .non (Pl.read x); unfold Pl.read; rw [e]; rfl)
    | some ts =>
      rw [e] at hv1
      obtain ⟨wl, vs, rfl, hwl, hp⟩ := hv1
      refine ⟨_, rfl, rfl, false, rfl, ?_⟩
      dsimp only
      rw [if_neg (by decide)]
      have hts := toks_wd e
      have hlen := toks_len e
      unfold tNext
      dsimp only [List.set, List.map, List.replicate, List.length]
      refine ⟨_, rfl, fun a dx ha hdx hne => ?_⟩
      have g2 := g1.newk (u := .own a) hdx
      have ha2 : upd H1 dx (.own a) a = none := by rw [upd_ne (Ne.symm hne)]; exact ha
      have g3 := g2.new (u := .ins T.cT dx []) ha2
      refine ⟨_, _, a, dx, .ref wl, ts, rfl, g3.g.f, g3.m, upd_same, ⟨wl, vs, rfl, (Ex.new (g1.f.free hdx)) _ _ hwl, hp⟩, fun H4 F4 M4 A hA gg rd => ⟨rfl, ?_⟩⟩
      have g4 := g3.trans gg
      subst hA
      refine ⟨A.a, A.dx, _, rfl, g4.m _ _ rd.i, rfl, ?_⟩
      refine ⟨F4, M4, A, ts, rfl, g4.g.f, g4.m, rd, by omega, fun u hu => ⟨(hts u hu).1, by have := (hts u hu).2; omega⟩, fun v H5 F5 M5 gg2 hv5 => ?_⟩
      exact q v H5 F5 (g4.trans gg2).done (by show rOpt rTr F5 v (Pl.read x); unfold Pl.read; rw [e]; exact hv5)
end
end F1

set_option Elab.async false
set_option linter.all false
set_option autoImplicit false
set_option maxRecDepth 100000
set_option maxHeartbeats 4000000
/-! # Own errors; what a value writes -/
namespace F1
open PySem L2 Y
open Pl hiding Sp Ss PA PB RA RW RP RS
/-- a def with keyword defaults, that may raise BadFormula -/
theorem pass00 {X : Cx} {E : XK} : Passes CX0 X E := fun _ _ _ _ _ _ _ h => h.elim
def ResE (C : Addr) (fs : List (Str × V)) (Hk H : Hp) (E : XK) : Prop := ∀ d H' F, Grow Hk H F H' → F d = some (.xd fs) → E (.ref C) (some d) H'
theorem ResE.from {C : Addr} {fs : List (Str × V)} {H H' Hk F' : Hp} {E : XK} (g : Grow Hk H F' H') (h : ResE C fs Hk H E) : ResE C fs F' H' E := fun d H2 F g2 b => h d H2 F (g.trans g2) b
section
variable {P : Program} {w : World} {K : PySem.W.Frag} {mg : Str → Option Value} {base : Heap}
def fsX (f code : Str) (z : Str) : List (Str × V) := [(f, .str z), (("code" : Str), .str code)]
def spEx (C : Addr) (f code : Str) : Sp := fun vs H Q _ => ∃ (a : Addr) (z : Str), vs = [.ref a, .str z] ∧ H a = some (exo a C none) ∧
  ∀ dx H', H dx = none → H' a = some (exo a C (some dx)) → H' dx = some (exd dx (fsX f code z)) → (∀ b, b ≠ a → b ≠ dx → H' b = H b) → Q .non H'
theorem ok_BadFormula_init (T : Txt w K mg) : FnOk P w K mg base CX0 1 T.d_BadFormula_init.a T.d_BadFormula_init.fd ["self", "why"] (spEx T.cB "why" "BadFormula") := by
  refine T.d_BadFormula_init.F.ok sc_BadFormula_init (fun vs H Q Ew h => ?_) (fun cdv A outer s H vs Q Ew hr h => ?_)
  · obtain ⟨_, _, rfl, _⟩ := h; rfl
  · obtain ⟨a, z, rfl, ha, q⟩ := h
    refine ⟨_, (pss_cons (ps_expr (pe_veinit (by rfl) T.n_ValueError T.vV (pa_cons (pv 0) (pa_cons pe_str pa_nil))))
      (pss_cons (ps_ost (pv 0) pe_str)
      (pss_one (ps_ost (pv 0) (pv 1))))), ?_⟩
    refine ⟨_, rfl, a, T.cB, _, rfl, by show 1 ≤ 1000; omega, T.oxB, ha, ?_⟩
    refine ⟨_, rfl, a, T.cB, rfl, T.oxB, T.bCode, .inl ⟨ha, fun dx hd ne => ?_⟩⟩
    refine ⟨_, rfl, _, rfl, a, T.cB, rfl, T.oxB, T.bWhy, .inr ⟨dx, _, upd_same, by rw [upd_ne ne, upd_same], by show 1 ≤ 900; omega, ?_⟩⟩
    refine q dx _ hd (by rw [upd_ne (Ne.symm ne), upd_same]) upd_same fun b h1 h2 => by rw [upd_ne h2, upd_ne h1, upd_ne h2]
theorem ok_NoSuch_init (T : Txt w K mg) : FnOk P w K mg base CX0 1 T.d_NoSuch_init.a T.d_NoSuch_init.fd ["self", "name"] (spEx T.cS "name" "NoSuch") := by
  refine T.d_NoSuch_init.F.ok sc_NoSuch_init (fun vs H Q Ew h => ?_) (fun cdv A outer s H vs Q Ew hr h => ?_)
  · obtain ⟨_, _, rfl, _⟩ := h; rfl
  · obtain ⟨a, z, rfl, ha, q⟩ := h
    refine ⟨_, (pss_cons (ps_expr (pe_leinit (by rfl) T.n_LookupError T.vL (pa_cons (pv 0) (pa_cons pe_str pa_nil))))
      (pss_cons (ps_lst (pv 0) pe_str)
      (pss_one (ps_lst (pv 0) (pv 1))))), ?_⟩
    refine ⟨_, rfl, a, T.cS, _, rfl, by show 1 ≤ 1000; omega, T.oxS, ha, ?_⟩
    refine ⟨_, rfl, a, T.cS, rfl, T.oxS, T.sCode, .inl ⟨ha, fun dx hd ne => ?_⟩⟩
    refine ⟨_, rfl, _, rfl, a, T.cS, rfl, T.oxS, T.sName, .inr ⟨dx, _, upd_same, by rw [upd_ne ne, upd_same], by show 1 ≤ 900; omega, ?_⟩⟩
    refine q dx _ hd (by rw [upd_ne (Ne.symm ne), upd_same]) upd_same fun b h1 h2 => by rw [upd_ne h2, upd_ne h1, upd_ne h2]
theorem s_exc {C : Addr} {σ : L2.St} {Hk H : Hp} {ta : TA} {z f code : Str} {E : XK} (ha : EA (pCons rStr z pNil) ta σ Hk) (ex : Ex Hk H) (q : ResE C (fsX f code z) Hk H E) : tMkO C (spEx C f code) [] ta σ H fun cls d H' => E cls d H' :=
  ha H ex _ fun vs H1 F g hp => by
    obtain ⟨v, ws, rfl, hv, hn⟩ := hp
    cases hv; cases hn
    refine ⟨by show 1 ≤ 1000; omega, fun a hfa => ⟨a, z, rfl, upd_same, fun dx H' hd h1 h2 hk => ⟨rfl, dx, _, h1, h2, ?_, ?_⟩⟩⟩
    · by_cases e : dx = a
      · subst e; exact hfa
      · rw [upd_ne e] at hd; exact hd
    · have na : dx ≠ a := fun e => by subst e; rw [upd_same] at hd; cases hd
      rw [upd_ne na] at hd
      have exH : Ex H1 (upd (L2.del H' a) dx (.xd (fsX f code z))) := fun b o hb => by
        have b1 : b ≠ a := ne_of_none hb hfa
        have b2 : b ≠ dx := ne_of_none hb hd
        rw [upd_ne b2, L2.del_ne b1, hk b b1 b2, upd_ne b1]
        exact hb
      have fd : F dx = none := g.f.free hd
      refine q dx _ (upd F dx (.xd (fsX f code z))) ⟨g.h.trans exH, g.k.trans (Ex.new fd), fun b o hb => ?_, fun b h3 h4 => ?_⟩ upd_same
      · by_cases e : b = dx
        · subst e; rw [upd_same] at hb; rw [upd_same]; exact hb
        · rw [upd_ne e] at hb; exact exH _ _ (g.f _ _ hb)
      · by_cases e : b = dx
        · subst e; exact g.h.free hd
        · rw [upd_ne e] at h4; exact g.n b h3 h4
/-! ### a value that writes a formula or none -/
/-- a text, or something else -/
def rFV (K : PySem.W.Frag) : Rp (Option W) := fun H v o => match o with
  | some x => v = .str (S x) ∧ x.length ≤ 20000
  | none => ∃ tn, (∀ H', Ex H H' → TyX K H' v tn) ∧ PySem.W.kitOne K tn (.type "str") = some false
instance : Mono (rFV K) := ⟨fun {H H' v o} e h => by
  cases o with
  | some x => exact h
  | none =>
    obtain ⟨tn, h1, h2⟩ := h
    exact ⟨tn, fun H2 e2 => h1 H2 (e.trans e2), h2⟩⟩
def readO (o : Option W) : Option Tr := o.bind Pl.read
def noF : Str := "the value writes no formula"
def fsB : List (Str × V) := fsX "why" "BadFormula" noF
def spFt (K : PySem.W.Frag) (C : Addr) : Sp := fun vs H Q E => ∃ Hk, Ex Hk H ∧ ∃ v o, vs = [v] ∧ rFV K Hk v o ∧ (∀ t, readO o = some t → Res rTr Hk H t Q) ∧ (readO o = none → ResE C fsB Hk H E)
theorem ok__formula_tree (T : Txt w K mg) : FnOk P w K mg base (L2N.CX P w) 6 T.d__formula_tree.a T.d__formula_tree.fd ["text"] (spFt K T.cB) := by
  refine T.d__formula_tree.F.okN sc__formula_tree (fun vs H Q Ew h => ?_) (fun cdv A outer s H vs Q Ew hr h => ?_)
  · obtain ⟨_, _, _, _, rfl, _⟩ := h; rfl
  · obtain ⟨Hk, ex, v, o, rfl, hv, q1, q2⟩ := h
    refine ⟨_, (pss_cons (ps_set (i := 1) sc__formula_tree.nd rfl (Or.inl rfl) pe_non)
      (pss_cons (ps_if (pt_val (pe_callB (c_isiK (K := K) rfl) (by rfl) T.n_isinstance (by decide +kernel) (pa_cons (pv 0) (pa_cons (pe_bltn (v := .ty "str") (by rfl) T.n_str (by decide +kernel) rfl) pa_nil)))) (pss_cons (ps_if (pt_cmpR op_gt (pe_callB call_len_str (by rfl) T.n_len (by decide +kernel) (pa_cons (pv 0) pa_nil)) (C8.pe_gc (v := .int 20000) rfl T.g_TEXT) (nomark _)) (pss_one ps_never) pss_nil)
      (pss_one (ps_set (i := 1) sc__formula_tree.nd rfl (Or.inl rfl) (pe_call (ok_read_tree T) (hr.mono (by decide)) (by rfl) T.g_read_tree T.d_read_tree.F.kp T.d_read_tree.b .nil pass0 (pa_cons (pv 0) pa_nil))))) pss_nil)
      (pss_cons (ps_if (pt_cmpR op_isN (pv 1) pe_non (nomark _)) (pss_one (L2N.ps_raise rfl (L2N.takes_of rfl rfl rfl rfl) (pmkN T.oxB T.iB T.tB (ok_BadFormula_init T) (hr.mono (by decide)) T.d_BadFormula_init.b .nil pass00 (by rfl) T.g_BadFormula (pa_cons pe_str pa_nil)))) pss_nil)
      (pss_one (ps_ret (pv 1)))))), ?_⟩
    cases o with
    | none =>
      obtain ⟨tn, ht, hk⟩ := hv
      refine s_set (K := Hk) (r := rV) (x := .non) (e_c rfl) ex fun v1 H1 F1 g1 hv1 => ?_
      cases hv1
      dsimp only [List.set, L2.start]
      have tt : Y.T (tB (tCB (rIsi K) (tCons (tVar 0) (tCons (tC (.ty "str")) tNil)))) [some v, some .non] F1 false := t_b fun H e Q q => ⟨_, rfl, v, .ty "str", tn, .type "str", false, rfl, .ty _, ht H (g1.k.trans e), hk, q _ H F1 (Grow.refl e) rfl⟩
      refine s_if (K := F1) tt g1.f (fun z => nomatch z) fun _ H2 e2 => ?_
      unfold tNext
      dsimp only
      refine s_if (K := F1) (b := true) (t_test (fun H e Q q => ⟨.non, rfl, rfl, q _ H F1 (Grow.refl e) rfl⟩)) (g1.f.trans e2) (fun _ H3 e3 => ?_) (fun z => nomatch z)
      refine s_exc (ea_cons e_str ea_nil) ((g1.f.trans e2).trans e3) ?_
      exact (q2 rfl).from ((g1.trans (Grow.of g1.f e2)).trans (Grow.of (g1.f.trans e2) e3))
    | some x =>
      obtain ⟨rfl, hx⟩ := hv
      refine s_set (K := Hk) (r := rV) (x := .non) (e_c rfl) ex fun v1 H1 F1 g1 hv1 => ?_
      cases hv1
      dsimp only [List.set, L2.start]
      refine s_if (K := F1) (b := true) (t_b (e_isi (r := rW) (x := x) (e_var rfl rfl) (.ty _) ty_W kSS)) g1.f (fun _ H2 e2 => ?_) (fun z => nomatch z)
      refine s_if (K := F1) (b := false) ((t_test (e_b0 (p := fun i j => decide (i > j)) (e_lenW (a := x) (e_var rfl rfl) (by omega)) (e_int (n := 20000)))).as (by rw [decide_eq_false]; omega)) (g1.f.trans e2) (fun z => nomatch z) fun _ H3 e3 => ?_
      unfold tNext
      dsimp only
      refine s_set (K := F1) (r := rOpt rTr) (x := Pl.read x) (e_c1 (r := rW) (x := x) (e_var rfl rfl) (by omega)) ((g1.f.trans e2).trans e3) fun v4 H4 F4 g4 hv4 => ?_
      dsimp only [List.set]
      have g5 : Grow Hk H F4 H4 := ((g1.trans (Grow.of g1.f e2)).trans (Grow.of (g1.f.trans e2) e3)).trans g4
      cases e : Pl.read x with
      | none =>
        rw [e] at hv4
        cases hv4
        refine s_if (K := F4) (b := true) (t_test (fun H e Q q => ⟨.non, rfl, rfl, q _ H F4 (Grow.refl e) rfl⟩)) g4.f (fun _ H5 e5 => ?_) (fun z => nomatch z)
        refine s_exc (ea_cons e_str ea_nil) (g4.f.trans e5) ?_
        exact (q2 e).from (g5.trans (Grow.of g4.f e5))
      | some t =>
        rw [e] at hv4
        obtain ⟨vs, p, rfl, hp⟩ := rTr_tup hv4
        refine s_if (K := F4) (b := false) (t_test (fun H e Q q => ⟨.ref p, rfl, rfl, q _ H F4 (Grow.refl e) (by show V.bl _ = V.bl _; rw [decide_eq_false (by simp)])⟩)) g4.f (fun z => nomatch z) (fun _ H5 e5 => ?_)
        dsimp only
        exact ⟨_, rfl, q1 t e _ H5 F4 (g5.trans (Grow.of g4.f e5)) hv4⟩
end
end F1

set_option Elab.async false
set_option linter.all false
set_option autoImplicit false
set_option maxRecDepth 100000
set_option maxHeartbeats 4000000
/-! # Formulas: an instance -/
namespace L2
open PySem PySem.Spec PyProof.Rows
end L2
namespace F1
open PySem L2 Y
open Pl hiding Sp Ss PA PB RA RW RP RS
abbrev frF (tv tx nm d z : V) : List (Str × V) := [(("tree" : Str), tv), (("_text" : Str), tx), (("names" : Str), nm), (("depth" : Str), d), (("size" : Str), z)]
def isF (H : Hp) (fs : List (Str × V)) (t : Tr) : Prop := ∃ tv nm, fs = frF tv (.str (S (txt t))) nm (.int (depth (txt t))) (.int (size t : Int)) ∧ rTr H tv t ∧ rTup rW H nm (names t)
theorem isF.up {H H' : Hp} {fs : List (Str × V)} {t : Tr} (h : isF H fs t) (e : Ex H H') : isF H' fs t := by
  obtain ⟨tv, nm, h1, h2, h3⟩ := h
  exact ⟨tv, nm, h1, Y.up (r := rTr) e h2, Y.up (r := rTup rW) e h3⟩
def rFm (C : Addr) : Rp Tr := fun H v t => ∃ a dx fs, v = .ref a ∧ H a = some (.ins C dx fs) ∧ isF H fs t
instance (C : Addr) : Mono (rFm C) := ⟨fun e ⟨a, dx, fs, h1, h2, h3⟩ => ⟨a, dx, fs, h1, e _ _ h2, h3.up e⟩⟩
section
variable {P : Program} {w : World} {K : PySem.W.Frag} {mg : Str → Option Value} {base : Heap}
section
variable {α β : Type} {r : Rp α} {s : Rp β} {σ : L2.St} {Hk H M K0 H0 M0 : Hp} {ta tb tc te tl to tv : TE} {tt : TT} {D : Ends} {Q : VK} {a C dx o : Addr} {fs fs' : List (Str × V)} {f : Str} {v : V} {x : α} {t : Tr}
theorem g_c1 {pre : α → Prop} {ff : α → β} {Ew : XK} (ho : ∀ Q : VK, Q v H → te σ H Q) (hv : r Hk v x) (hp : pre x) (g : GM K0 H0 M0 Hk H M) (k : ∀ v' H2 F, GM K0 H0 M0 F H2 M → Ex Hk F → s F v' (ff x) → Q v' H2) : tCall (sp1 r s pre ff) [] Ew (tCons te tNil) σ H Q :=
  ho _ ⟨Hk, g.f, v, x, rfl, hv, hp, fun v' H' F gr hs => k v' H' F (g.grow gr) gr.k hs⟩
/-- a.f = e, e reckoned -/
theorem g_fset2 {i : Nat} {Pv : Hp → V → Prop} (hc' : ∀ Q : VK, (∀ v H2 F, GM K0 H0 M0 F H2 M → Ex Hk F → Pv F v → Q v H2) → tv σ H Q) (ho : σ[i]? = some (some (.ref a))) (hm : M a = some (.ins C dx fs)) (hc : Cls K C) (hn : NoAttr K C f) (hl : fs.length < 1000)
    (k : ∀ v H2 F, GM K0 H0 M0 F (upd H2 a (.ins C dx (putF f v fs))) (upd M a (.ins C dx (putF f v fs))) → Ex Hk F → Pv F v → D.nx σ (upd H2 a (.ins C dx (putF f v fs)))) : sFld K (tVar i) tv f D σ H :=
  hc' _ fun v H2 F g e hp => ⟨.ref a, ho, a, C, dx, fs, rfl, g.m _ _ hm, hc, hn, hl, k v H2 F (g.upd hm) e hp⟩
theorem f_tree {fs : List (Str × V)} (T : Txt w K mg) (ho : ∀ H, Ex Hk H → ∀ Q : VK, (∀ v H2 F, Grow Hk H F H2 → rFm T.cF F v t → Q v H2) → ta σ H Q) : E rTr (tFld K ta "tree") σ Hk t := fun H e Q q => ho H e _ fun v H2 F g ⟨a, dx, fs, hv, ha, tv, nm, hf, h1, h2⟩ => by
  subst hf
  exact ⟨a, T.cF, dx, _, tv, hv, g.f _ _ ha, T.clF, T.nTr, rfl, q tv H2 F g h1⟩
theorem e_tree (T : Txt w K mg) (h : E (rFm T.cF) ta σ Hk t) : E rTr (tFld K ta "tree") σ Hk t := f_tree (fs := []) T h
theorem e_text (T : Txt w K mg) (h : E (rFm T.cF) ta σ Hk t) : E rW (tFld K ta "_text") σ Hk (txt t) := fun H e Q q => h H e _ fun v H2 F g ⟨a, dx, fs, hv, ha, tv, nm, hf, h1, h2⟩ => by
  subst hf
  exact ⟨a, T.cF, dx, _, _, hv, g.f _ _ ha, T.clF, T.nTx, rfl, q _ H2 F g rfl⟩
theorem e_names (T : Txt w K mg) (h : E (rFm T.cF) ta σ Hk t) : E (rTup rW) (tFld K ta "names") σ Hk (names t) := fun H e Q q => h H e _ fun v H2 F g ⟨a, dx, fs, hv, ha, tv, nm, hf, h1, h2⟩ => by
  subst hf
  exact ⟨a, T.cF, dx, _, _, hv, g.f _ _ ha, T.clF, T.nNm, rfl, q _ H2 F g h2⟩
theorem e_depth (T : Txt w K mg) (h : E (rFm T.cF) ta σ Hk t) : E rInt (tFld K ta "depth") σ Hk (depth (txt t)) := fun H e Q q => h H e _ fun v H2 F g ⟨a, dx, fs, hv, ha, tv, nm, hf, h1, h2⟩ => by
  subst hf
  exact ⟨a, T.cF, dx, _, _, hv, g.f _ _ ha, T.clF, T.nDp, rfl, q _ H2 F g rfl⟩
theorem e_size (T : Txt w K mg) (h : E (rFm T.cF) ta σ Hk t) : E rInt (tFld K ta "size") σ Hk (size t : Int) := fun H e Q q => h H e _ fun v H2 F g ⟨a, dx, fs, hv, ha, tv, nm, hf, h1, h2⟩ => by
  subst hf
  exact ⟨a, T.cF, dx, _, _, hv, g.f _ _ ha, T.clF, T.nSz, rfl, q _ H2 F g rfl⟩
end
/-- what stays within the bounds -/
def bnd (t : Tr) : Prop := okd t ∧ depth (txt t) ≤ 20 ∧ size t ≤ 120
theorem ok__check_bounds (T : Txt w K mg) : FnOk P w K mg base CX0 3 T.d__check_bounds.a T.d__check_bounds.fd ["formula"] (sp1 (rFm T.cF) rNon bnd (fun _ => ())) := by
  refine T.d__check_bounds.F.ok sc__check_bounds (fun vs H Q Ew h => ?_) (fun cdv A outer s H vs Q Ew hr h => ?_)
  · obtain ⟨_, _, v, x, rfl, _⟩ := h; rfl
  · obtain ⟨Hk, ex, v, t, rfl, hv, ⟨hd, hdp, hz⟩, q⟩ := h
    refine ⟨_, (pss_cons (ps_set (i := 1) sc__check_bounds.nd rfl (Or.inl rfl) (pe_call (ok_tree_digits T) (hr.mono (by decide)) (by rfl) T.g_tree_digits T.d_tree_digits.F.kp T.d_tree_digits.b .nil pass0 (pa_cons (pe_fldK (K := K) rfl (pv 0) rfl) pa_nil)))
      (pss_cons (ps_if (pt_cmpR op_gt (pv 1) (C8.pe_gc (v := .int 40) rfl T.g_DIGITS) (nomark _)) (pss_one ps_never) pss_nil)
      (pss_cons (ps_if (pt_cmpR op_gt (pe_fldK (K := K) rfl (pv 0) rfl) (C8.pe_gc (v := .int 20) rfl T.g_DEPTH) (nomark _)) (pss_one ps_never) pss_nil)
      (pss_one (ps_if (pt_cmpR op_gt (pe_fldK (K := K) rfl (pv 0) rfl) (C8.pe_gc (v := .int 120) rfl T.g_SIZE) (nomark _)) (pss_one ps_never) pss_nil))))), ?_⟩
    refine s_set (K := Hk) (r := rInt) (x := (digs t : Int)) (e_c1 (e_tree T (e_var hv rfl)) ⟨hd, by omega⟩) ex fun v1 H1 F1 g1 hv1 => ?_
    cases hv1
    dsimp only [List.set, L2.start]
    have vf : ∀ {b : Option V}, E (rFm T.cF) (tVar 0) [some v, b] F1 t := e_var (up g1.k hv) rfl
    have hdg := hd.2
    refine s_if (K := F1) (b := false) ((t_test (e_b0 (p := fun i j => decide (i > j)) (e_var (x := (digs t : Int)) rfl rfl) (e_int (n := 40)))).as (by rw [decide_eq_false]; omega)) g1.f (fun z => nomatch z) fun _ H2 e2 => ?_
    refine s_if (K := F1) (b := false) ((t_test (e_b0 (p := fun i j => decide (i > j)) (e_depth T vf) (e_int (n := 20)))).as (by rw [decide_eq_false]; omega)) (g1.f.trans e2) (fun z => nomatch z) fun _ H3 e3 => ?_
    refine s_if (K := F1) (b := false) ((t_test (e_b0 (p := fun i j => decide (i > j)) (e_size T vf) (e_int (n := 120)))).as (by rw [decide_eq_false]; omega)) ((g1.f.trans e2).trans e3) (fun z => nomatch z) fun _ H4 e4 => ?_
    exact q .non H4 F1 (((g1.trans (Grow.of g1.f e2)).trans (Grow.of (g1.f.trans e2) e3)).trans (Grow.of ((g1.f.trans e2).trans e3) e4)) rfl
/-- what makes a formula: a tree, or a value -/
def spFi (K : PySem.W.Frag) (cF cB : Addr) : Sp := fun vs H Q E => ∃ (Hk M : Hp) (a dx : Addr) (v tv : V) (o : Option Tr), vs = [.ref a, v, tv] ∧ Ex Hk (sub H M) ∧ Ex M H ∧ M a = some (.ins cF dx []) ∧
  ((∃ t, o = some t ∧ rTr Hk tv t ∧ preT t) ∨ (tv = .non ∧ ∃ z, rFV K Hk v z ∧ readO z = o ∧ ∀ t, o = some t → bnd t)) ∧
  (∀ t, o = some t → ∀ H' F M' fs, GM Hk H M F H' M' → M' a = some (.ins cF dx fs) → isF F fs t → Q .non H') ∧ (o = none → ∀ d H' F, GM Hk H M F H' M → F d = some (.xd fsB) → E (.ref cB) (some d) H')
theorem ok_Formula_init (T : Txt w K mg) : FnOk P w K mg base (L2N.CX P w) 7 T.d_Formula_init.a T.d_Formula_init.fd ["self", "text", "tree"] (spFi K T.cF T.cB) := by
  refine T.d_Formula_init.F.ok sc_Formula_init (fun vs H Q Ew h => ?_) (fun cdv A outer s H vs Q Ew hr h => ?_)
  · obtain ⟨_, _, _, _, _, _, _, rfl, _⟩ := h; rfl
  · obtain ⟨Hk, M, a, dx, v, tv, o, rfl, h1, h2, hi, hcase, q1, q2⟩ := h
    refine ⟨_, (pss_cons (ps_fld (pv 0) (pe_ifExp (pt_cmpR op_isN (pv 2) pe_non (nomark _)) (pe_call (ok__formula_tree T) (hr.mono (by decide)) (by rfl) T.g__formula_tree T.d__formula_tree.F.kp T.d__formula_tree.b .nil (L2N.passes_call (L2N.takes_of rfl rfl rfl rfl) (fun _ _ _ _ h => h)) (pa_cons (pv 1) pa_nil)) (pv 2)) rfl)
      (pss_cons (ps_fld (pv 0) (pe_call (ok_write_tree T) (hr.mono (by decide)) (by rfl) T.g_write_tree T.d_write_tree.F.kp T.d_write_tree.b .nil pass0 (pa_cons (pe_fldK (K := K) rfl (pv 0) rfl) pa_nil)) rfl)
      (pss_cons (ps_fld (pv 0) (pe_call (ok_met_names T) (hr.mono (by decide)) (by rfl) T.g_met_names T.d_met_names.F.kp T.d_met_names.b .nil pass0 (pa_cons (pe_fldK (K := K) rfl (pv 0) rfl) pa_nil)) rfl)
      (pss_cons (ps_fld (pv 0) (pe_call (ok_text_depth T) (hr.mono (by decide)) (by rfl) T.g_text_depth T.d_text_depth.F.kp T.d_text_depth.b .nil pass0 (pa_cons (pe_fldK (K := K) rfl (pv 0) rfl) pa_nil)) rfl)
      (pss_cons (ps_fld (pv 0) (pe_call (ok_tree_size T) (hr.mono (by decide)) (by rfl) T.g_tree_size T.d_tree_size.F.kp T.d_tree_size.b .nil pass0 (pa_cons (pe_fldK (K := K) rfl (pv 0) rfl) pa_nil)) rfl)
      (pss_one (ps_if (pt_cmpR op_isN (pv 2) pe_non (nomark _)) (pss_one (ps_expr (pe_call (ok__check_bounds T) (hr.mono (by decide)) (by rfl) T.g__check_bounds T.d__check_bounds.F.kp T.d__check_bounds.b .nil pass0 (pa_cons (pv 0) pa_nil)))) pss_nil))))))), ?_⟩
    have g0 := GM.refl h1 h2
    have isn : ∀ {F : Hp} {b : Bool}, (decide (tv = .non) = b) → E rBl (tOp (fun x y H Q => y = V.non ∧ Q (.bl (decide (x = .non))) H) (tVar 2) (tC .non)) (L2.start ["self", "text", "tree"] [.ref a, v, tv]) F b := fun {F b} hb H e Q q => ⟨tv, rfl, rfl, q _ H F (Grow.refl e) (by show V.bl _ = V.bl _; rw [hb])⟩
    have rest : ∀ (t : Tr) (wv : V) H1 F1, GM Hk H M F1 (upd H1 a (.ins T.cF dx [("tree", wv)])) (upd M a (.ins T.cF dx [("tree", wv)])) → rTr F1 wv t → preT t → o = some t → (∀ b, decide (tv = .non) = b → b = true → bnd t) → 
        (sFld K (tVar 0) (tCall (sp1 rTr rW preT txt) [] E0 (tCons (tFld K (tVar 0) "tree") tNil)) "_text" { nx := fun σ H => sFld K (tVar 0) (tCall (sp1 rTr (rTup rW) (fun t => size t ≤ 10000) names) [] E0 (tCons (tFld K (tVar 0) "tree") tNil)) "names" { nx := fun σ H => sFld K (tVar 0) (tCall (sp1 rW rInt (fun _ => True) depth) [] E0 (tCons (tFld K (tVar 0) "_text") tNil)) "depth" { nx := fun σ H => sFld K (tVar 0) (tCall (sp1 rTr rInt (fun t => size t ≤ 10000) fun t => (size t : Int)) [] E0 (tCons (tFld K (tVar 0) "tree") tNil)) "size" { nx := fun σ H => tIfS (tTest (tOp (fun x y H Q => y = V.non ∧ Q (.bl (decide (x = .non))) H) (tVar 2) (tC .non))) (tDrop (tCall (sp1 (rFm T.cF) rNon bnd (fun _ => ())) [] E0 (tCons (tVar 0) tNil))) tNext { nx := fun _ H' => Q .non H', rt := Q } σ H, rt := Q } σ H, rt := Q } σ H, rt := Q } σ H, rt := Q } (L2.start ["self", "text", "tree"] [.ref a, v, tv]) (upd H1 a (.ins T.cF dx [("tree", wv)])) : Prop) := by
      intro t wv H1 F1 g1 hw hp ho hb
      refine g_fset2 (Pv := fun F v => rW F v (txt t)) (fun Q k => g_c1 (o_fld rfl upd_same T.clF T.nTr rfl g1) hw hp g1 k) rfl upd_same T.clF T.nTx (by show 1 < 1000; decide) fun v2 H2 F2 g2 e2 hv2 => ?_
      cases hv2
      refine g_fset2 (Pv := fun F v => rTup rW F v (names t)) (fun Q k => g_c1 (o_fld rfl upd_same T.clF T.nTr rfl g2) (up (r := rTr) e2 hw) (show size t ≤ 10000 by have := hp.2; omega) g2 k) rfl upd_same T.clF T.nNm (by show 2 < 1000; decide) fun v3 H3 F3 g3 e3 hv3 => ?_
      refine g_fset2 (Pv := fun F v => rInt F v (depth (txt t))) (fun Q k => g_c1 (r := rW) (x := txt t) (o_fld rfl upd_same T.clF T.nTx rfl g3) rfl trivial g3 k) rfl upd_same T.clF T.nDp (by show 3 < 1000; decide) fun v4 H4 F4 g4 e4 hv4 => ?_
      cases hv4
      refine g_fset2 (Pv := fun F v => rInt F v (size t : Int)) (fun Q k => g_c1 (o_fld rfl upd_same T.clF T.nTr rfl g4) (up (r := rTr) (e2.trans (e3.trans e4)) hw) (show size t ≤ 10000 by have := hp.2; omega) g4 k) rfl upd_same T.clF T.nSz (by show 4 < 1000; decide) fun v5 H5 F5 g5 e5 hv5 => ?_
      cases hv5
      have hfin : isF F5 (frF wv (.str (S (txt t))) v3 (.int (depth (txt t))) (.int (size t : Int))) t := ⟨wv, v3, rfl, up (r := rTr) (e2.trans (e3.trans (e4.trans e5))) hw, up (r := rTup rW) (e4.trans e5) hv3⟩
      refine g_if (b := decide (tv = .non)) (t_test (isn rfl)) g5 (fun c H6 g6 => ?_) (fun c H6 g6 => ?_)
      · refine ⟨_, rfl, jn F5 _, g6.jn, .ref a, t, rfl, ⟨a, dx, _, rfl, g6.jr upd_same, hfin.up g6.jle⟩, hb _ rfl c, fun v' H7 F7 gr _ => ?_⟩
        exact q1 t ho _ F5 _ _ (g6.ex gr.h) upd_same hfin
      · exact q1 t ho _ F5 _ _ g6 upd_same hfin
    show tIf _ _ _ _ _ _
    rcases hcase with ⟨t, ho, ht, hp⟩ | ⟨hn, z, hz, hr, hb⟩
    · obtain ⟨vs, p, hp1, hp2⟩ := rTr_tup ht
      have hb0 : decide (tv = V.non) = false := by rw [hp1]; rfl
      refine g_ife (b := false) (t_test (isn hb0)) g0 (fun z => nomatch z) fun _ H1 g1 => ?_
      refine ⟨tv, rfl, .ref a, rfl, a, T.cF, dx, [], rfl, g1.m _ _ hi, T.clF, T.nTr, by show 0 < 1000; decide, ?_⟩
      exact rest t tv H1 Hk (g1.upd hi) ht hp ho (fun b e1 e2 => by rw [hb0] at e1; rw [← e1] at e2; cases e2)
    · subst hn
      refine g_ife (b := true) (t_test (isn rfl)) g0 (fun _ H1 g1 => ?_) (fun z => nomatch z)
      refine ⟨v, rfl, Hk, g1.f, v, z, rfl, hz, fun t ht v2 H2 F2 gr hv2 => ?_, fun hnn d H2 F2 gr hd => ?_⟩
      · have ho : o = some t := by rw [← hr]; exact ht
        have g2 := g1.grow gr
        refine ⟨.ref a, rfl, a, T.cF, dx, [], rfl, g2.m _ _ hi, T.clF, T.nTr, by show 0 < 1000; decide, ?_⟩
        have hbt := hb t ho
        exact rest t v2 H2 F2 (g2.upd hi) hv2 ⟨hbt.1, by have := hbt.2.2; omega⟩ ho (fun _ _ _ => hbt)
      · exact q2 (by rw [← hr]; exact hnn) d H2 F2 (g1.grow gr) hd
end
end F1

set_option Elab.async false
set_option linter.all false
set_option autoImplicit false
set_option maxRecDepth 100000
set_option maxHeartbeats 4000000
/-! # Formulas: texts, equality, calls, degrees, putting in -/
namespace F1
open PySem L2 Y
open Pl hiding Sp Ss PA PB RA RW RP RS
theorem onceGo_mem : ∀ (l acc : List W) (x : W), x ∈ onceGo acc l ↔ x ∈ acc ∨ x ∈ l
  | [], acc, x => by show x ∈ acc ↔ _; simp
  | y :: l, acc, x => by
    show x ∈ onceGo _ l ↔ _
    rw [onceGo_mem l]
    by_cases h : y ∈ acc
    · rw [if_pos h]
      constructor
      · rintro (z | z)
        · exact .inl z
        · exact .inr (List.mem_cons_of_mem _ z)
      · rintro (z | z)
        · exact .inl z
        · rcases List.mem_cons.mp z with rfl | z
          · exact .inl h
          · exact .inr z
    · rw [if_neg h]
      simp only [List.mem_append, List.mem_cons, List.mem_nil_iff, or_false]
      constructor
      · rintro ((z | z) | z)
        · exact .inl z
        · exact .inr (.inl z)
        · exact .inr (.inr z)
      · rintro (z | z | z)
        · exact .inl (.inl z)
        · exact .inl (.inr z)
        · exact .inr z
theorem mem_names {t : Tr} {x : W} : x ∈ names t ↔ x ∈ nms t := by unfold names; rw [onceGo_mem]; simp
theorem put_id {n : W} {u : Tr} : ∀ {t : Tr}, n ∉ nms t → put n u t = t
  | .num s, _ => rfl
  | .name s, h => by
    have : ¬ s = n := fun e => h (by rw [e]; exact List.mem_cons_self)
    show (if s = n then u else .name s) = _
    rw [if_neg this]
  | .call s t, h => by show Tr.call s (put n u t) = _; rw [put_id (t := t) h]
  | .neg t, h => by show Tr.neg (put n u t) = _; rw [put_id (t := t) h]
  | .pow t d, h => by show Tr.pow (put n u t) d = _; rw [put_id (t := t) h]
  | .op o l r, h => by
    have h1 : n ∉ nms l := fun z => h (List.mem_append_left _ z)
    have h2 : n ∉ nms r := fun z => h (List.mem_append_right _ z)
    show Tr.op o (put n u l) (put n u r) = _
    rw [put_id h1, put_id h2]
/-- a call with its formula -/
def rCF (C : Addr) : Rp (W × Tr) := fun H v p => ∃ u, rTv H v [.str (S p.1), u] ∧ rFm C H u p.2
instance (C : Addr) : Mono (rCF C) := ⟨fun e ⟨u, h1, h2⟩ => ⟨u, up (r := rTv) e h1, up (r := rFm C) e h2⟩⟩
section
variable {P : Program} {w : World} {K : PySem.W.Frag} {mg : Str → Option Value} {base : Heap}
theorem ty_F (T : Txt w K mg) {t : Tr} : ∀ H v, rFm T.cF H v t → ∀ H', Ex H H' → TyX K H' v (.ref T.cF) := fun _ v ⟨a, dx, fs, h, h1, _⟩ _ e => by cases h; exact .base (.ins (e _ _ h1) T.clF T.haF T.hnF T.htF T.hmF)
theorem e_CF {C : Addr} {σ : L2.St} {Hk : Hp} {ta tb : TE} {n : W} {u : Tr} (ha : E rV ta σ Hk (.str (S n))) (hb : E (rFm C) tb σ Hk u) : E (rCF C) (tTup (tCons ta (tCons tb tNil))) σ Hk (n, u) := fun H e Q q =>
  two ha hb H e _ fun v w H2 F g hv hw => ⟨two_le, fun p hp => q (.ref p) _ _ (g.new hp) ⟨w, ⟨p, rfl, by rw [upd_same]; cases hv; rfl⟩, up (Ex.new (g.f.free hp)) hw⟩⟩
theorem ok_Formula_text (T : Txt w K mg) : FnOk P w K mg base CX0 1 T.d_Formula_text.a T.d_Formula_text.fd ["self"] (sp1 (rFm T.cF) rW (fun _ => True) txt) := by
  refine T.d_Formula_text.F.ok sc_Formula_text (fun vs H Q Ew h => ?_) (fun cdv A outer s H vs Q Ew hr h => ?_)
  · obtain ⟨_, _, v, x, rfl, _⟩ := h; rfl
  · obtain ⟨Hk, ex, v, t, rfl, hv, _, q⟩ := h
    refine ⟨_, (pss_one (ps_ret (pe_fldK (K := K) rfl (pv 0) rfl))), ?_⟩
    exact s_ret (e_text T (e_var hv rfl)) ex q
theorem e_prop (T : Txt w K mg) {σ : L2.St} {Hk : Hp} {ta : TE} {t : Tr} {Ew : XK} (h : E (rFm T.cF) ta σ Hk t) : E rW (tProp T.cF (sp1 (rFm T.cF) rW (fun _ => True) txt) [] Ew ta) σ Hk (txt t) := fun H e Q q => h H e _ fun v H2 F g hv => by
  obtain ⟨a, dx, fs, hv1, ha, hf⟩ := hv
  subst hv1
  exact ⟨a, dx, fs, rfl, g.f _ _ ha, F, g.f, .ref a, t, rfl, ⟨a, dx, fs, rfl, ha, hf⟩, trivial, fun v' H' F' g' hv' => q v' H' F' (g.trans g') hv'⟩
theorem ok_Formula_eq (T : Txt w K mg) : FnOk P w K mg base CX0 1 T.d_Formula_eq.a T.d_Formula_eq.fd ["self", "other"] (sp2 (rFm T.cF) (rFm T.cF) rBl (fun _ _ => True) fun t u => decide (txt t = txt u)) := by
  refine T.d_Formula_eq.F.ok sc_Formula_eq (fun vs H Q Ew h => ?_) (fun cdv A outer s H vs Q Ew hr h => ?_)
  · obtain ⟨_, _, v, x, v2, y, rfl, _⟩ := h; rfl
  · obtain ⟨Hk, ex, v, t, v2, u, rfl, hv, hv2, _, q⟩ := h
    refine ⟨_, (pss_one (ps_ret (pe_and (pe_callB (c_isiK (K := K) rfl) (by rfl) T.n_isinstance (by decide +kernel) (pa_cons (pv 1) (pa_cons (pe_glob (v := .ref T.cF) rfl T.g_Formula rfl) pa_nil))) (pe_one (pe_cmpR op_eq (pe_fldK (K := K) rfl (pv 0) rfl) (pe_fldK (K := K) rfl (pv 1) rfl) (nomark _)))))), ?_⟩
    have tI : E rBl (tCB (rIsi K) (tCons (tVar 1) (tCons (tC (.ref T.cF)) tNil))) (L2.start ["self", "other"] [v, v2]) Hk true := by
      exact e_isi (e_var hv2 rfl) (.own _) (ty_F T) T.kFF
    refine s_ret ((e_andV tI fun _ => e_eqW (e_text T (e_var hv rfl)) (e_text T (e_var hv2 rfl))).as (by simp)) ex q
theorem ok_Formula_repr (T : Txt w K mg) : FnOk P w K mg base CX0 3 T.d_Formula_repr.a T.d_Formula_repr.fd ["self"] (sp1 (rFm T.cF) rW (fun t => (txt t).length ≤ 90000) fun t => [70, 111, 114, 109, 117, 108, 97, 40] ++ txt t ++ [41]) := by
  refine T.d_Formula_repr.F.ok sc_Formula_repr (fun vs H Q Ew h => ?_) (fun cdv A outer s H vs Q Ew hr h => ?_)
  · obtain ⟨_, _, v, x, rfl, _⟩ := h; rfl
  · obtain ⟨Hk, ex, v, t, rfl, hv, hl, q⟩ := h
    refine ⟨_, (pss_one (ps_ret (pe_joined (PJ.cons pe_str (PJ.cons (pe_fmt (pe_prop (pv 0) T.clF T.propT (ok_Formula_text T) (hr.mono (by decide)) T.d_Formula_text.b .nil pass0 rfl)) (PJ.cons pe_str PJ.nil)))))), ?_⟩
    exact s_ret (e_js3 (e_w (by decide +kernel)) (e_prop T (e_var hv rfl)) (e_w (by decide +kernel)) (by simp; omega)) ex q
/-- a formula of a tree -/
theorem ok_formula_of (T : Txt w K mg) : FnOk P w K mg base CX0 9 T.d_formula_of.a T.d_formula_of.fd ["tree"] (sp1 rTr (rFm T.cF) preT id) := by
  refine T.d_formula_of.F.ok sc_formula_of (fun vs H Q Ew h => ?_) (fun cdv A outer s H vs Q Ew hr h => ?_)
  · obtain ⟨_, _, v, x, rfl, _⟩ := h; rfl
  · obtain ⟨Hk, ex, v, t, rfl, hv, hp, q⟩ := h
    refine ⟨_, (pss_one (ps_ret (pe_makeK T.mk_Formula (ok_Formula_init T) (hr.mono (by decide)) rfl T.g_Formula T.kb_Formula passLN (pa_cons pe_str pa_nil) (pk_cons (pv 0) pk_nil)))), ?_⟩
    refine ⟨_, rfl, rfl, rfl, fun a dx ha hdx hne => ?_⟩
    have g0 := GM.start ex
    have g1 := g0.newk (u := .own a) hdx
    have ha2 : upd H dx (.own a) a = none := by rw [upd_ne (Ne.symm hne)]; exact ha
    have g2 := g1.new (u := .ins T.cF dx []) ha2
    refine ⟨_, _, a, dx, .str "0", v, some t, rfl, g2.g.f, g2.m, upd_same, .inl ⟨t, rfl, up (r := rTr) (Ex.new (ex.free hdx)) hv, hp⟩, fun t' ht H3 F3 M3 fs gg hm hf => ⟨rfl, ?_⟩, fun z => nomatch z⟩
    cases ht
    have g3 := (g2.trans gg).give hm (by rw [sub_em]; exact ha)
    exact q (.ref a) H3 _ g3.done ⟨a, dx, fs, rfl, upd_same, hf.up (Ex.new ((g2.trans gg).fm hm))⟩
instance : Inhabited (W × Tr) := ⟨([], .num [])⟩
theorem size_calls : ∀ (t : Tr) (p : W × Tr), p ∈ callsOf t → size p.2 ≤ size t ∧ (okd t → okd p.2)
  | .num s, p, h => nomatch h
  | .name s, p, h => nomatch h
  | .call s t, p, h => by
    have hd : okd (.call s t) → okd t := fun ⟨h1, h2⟩ => ⟨h1.2, h2⟩
    rcases List.mem_append.mp h with h | h
    · have := size_calls t p h
      exact ⟨by show _ ≤ size t + 1; omega, fun z => this.2 (hd z)⟩
    · cases List.mem_singleton.mp h
      exact ⟨Nat.le_succ _, hd⟩
  | .neg t, p, h => by have := size_calls t p h; exact ⟨by show _ ≤ size t + 1; omega, fun z => this.2 z⟩
  | .pow t d, p, h => by have := size_calls t p h; exact ⟨by show _ ≤ size t + 2; omega, fun z => this.2 ⟨z.1.1, z.2⟩⟩
  | .op o l r, p, h => by
    rcases List.mem_append.mp h with h | h
    · have := size_calls l p h
      exact ⟨by show _ ≤ size l + size r + 1; omega, fun z => this.2 ⟨z.1.1, Nat.le_trans (Nat.le_max_left _ _) z.2⟩⟩
    · have := size_calls r p h
      exact ⟨by show _ ≤ size l + size r + 1; omega, fun z => this.2 ⟨z.1.2, Nat.le_trans (Nat.le_max_right _ _) z.2⟩⟩
theorem calls_len : ∀ t : Tr, (callsOf t).length ≤ size t
  | .num s => by simp [callsOf, size]
  | .name s => by simp [callsOf, size]
  | .call s t => by have := calls_len t; simp [callsOf, size]; omega
  | .neg t => by have := calls_len t; simp [callsOf, size]; omega
  | .pow t d => by have := calls_len t; simp [callsOf, size]; omega
  | .op o l r => by have := calls_len l; have := calls_len r; simp [callsOf, size]; omega
/-- a new list of the calls -/
def spCalls (C : Addr) : Sp := fun vs H Q _ => ∃ Hk, Ex Hk H ∧ ∃ v t, vs = [v] ∧ rFm C Hk v t ∧ preT t ∧ ResN (rCF C) Hk H (callsOf t) Q
theorem ok_Formula_calls (T : Txt w K mg) : FnOk P w K mg base CX0 10 T.d_Formula_calls.a T.d_Formula_calls.fd ["self"] (spCalls T.cF) := by
  refine T.d_Formula_calls.F.ok sc_Formula_calls (fun vs H Q Ew h => ?_) (fun cdv A outer s H vs Q Ew hr h => ?_)
  · obtain ⟨_, _, v, x, rfl, _⟩ := h; rfl
  · obtain ⟨Hk, ex, v, t, rfl, hv, hp, q⟩ := h
    refine ⟨_, (pss_one (ps_ret (pe_lc (own := [("name", 1), ("tree", 2)]) (g := (gTup K 2 (gCons (gName 1) (gCons (gName 2) gNil)))) rfl sc_Formula_calls.nd (pi_list (pe_call (ok_call_nodes T) (hr.mono (by decide)) (by rfl) T.g_call_nodes T.d_call_nodes.F.kp T.d_call_nodes.b .nil pass0 (pa_cons (pe_fldK (K := K) rfl (pv 0) rfl) pa_nil))) (blkOk_by (N := ["self", "name", "tree"]) (sc := defScope s_Formula_calls) (by decide +kernel)) (fun _ _ _ _ _ => (pg_tup rfl (pgs_cons (pg_name (i := 1) sc_Formula_calls.nd rfl (Or.inl rfl) (hf := Or.inr rfl)) (pgs_cons (pg_name (i := 2) sc_Formula_calls.nd rfl (Or.inl rfl) (hf := Or.inr rfl)) pgs_nil)))) (fun _ _ _ _ _ => pts_nil) (fun _ _ _ _ _ => (pe_tup (pa_cons (pv 1) (pa_cons (pe_call (ok_formula_of T) (hr.mono (by decide)) (by rfl) T.g_formula_of T.d_formula_of.F.kp T.d_formula_of.b .nil pass0 (pa_cons (pv 2) pa_nil)) pa_nil))))))), ?_⟩
    have hl := calls_len t
    refine s_retN (r := rCF T.cF) ((en_lc0 (f := fun i => (callsOf t).getD i default) (it_list (Kf := K) (e_c1 (e_tree T (e_var hv rfl)) (show size t ≤ 10000 by have := hp.2; omega))) (by have := hp.2; omega) fun i u F hi e hR => ?_).as ?_) ex q
    · obtain ⟨p, h1, h2⟩ := hR
      have e1 : (callsOf t).getD i default = p := by rw [List.getD_eq_getElem?_getD, h1]; rfl
      rw [e1]
      obtain ⟨y, hy, hy2⟩ := h2
      obtain ⟨T2, rfl, hT⟩ := hy
      have hm := size_calls t p (List.mem_of_getElem? h1)
      refine ⟨_, tg_two (Kf := K) (st_of hT), rfl, ?_⟩
      exact e_CF (e_v rfl) (e_c1 (f := id) (e_var (r := rTr) hy2 rfl) ⟨hm.2 hp.1, by have := hp.2; omega⟩)
    · have := map_range (ys := callsOf t) (f := fun p => p) default
      simpa using this
end
end F1

set_option Elab.async false
set_option linter.all false
set_option autoImplicit false
set_option maxRecDepth 100000
set_option maxHeartbeats 4000000
/-! # Putting in; degrees -/
namespace F1
open PySem L2 Y
open Pl hiding Sp Ss PA PB RA RW RP RS
section
variable {P : Program} {w : World} {K : PySem.W.Frag} {mg : Str → Option Value} {base : Heap}
section
variable {α β : Type} {r : Rp α} {s : Rp β} {σ : L2.St} {Hk H M K0 H0 M0 : Hp} {ta tb tc te tl to tv : TE} {tt : TT} {D : Ends} {Q : VK} {n : W} {u : Tr} {l : List W}
/-- word not in a told tuple -/
theorem e_niT (ha : E rW ta σ Hk n) (hb : E (rTup rW) tb σ Hk l) : E rBl (tOp (rIn K true) ta tb) σ Hk (!decide (n ∈ l)) := fun H e Q q => two ha hb H e _ fun v w H2 F g hv hw => by
  cases hv
  obtain ⟨p, vs, rfl, hp, hv⟩ := hw
  refine ⟨p, _, rfl, .inr (st_of (g.f _ _ hp)), rfl, by rw [ws_of hv]; exact flat_W l, q _ H2 F g ?_⟩
  show V.bl (!inV _ _) = V.bl _
  rw [ws_of hv, inV_W]
/-- {name: tree} -/
theorem e_tab (ha : ∀ H Q, Ex Hk H → Q (.str (S n)) H → ta σ H Q) (hb : E rTr tb σ Hk u) : E rTab (tDisp [(ta, tb)]) σ Hk (n, u) := fun H e Q q p hp => by
  have e1 : Ex Hk (upd H p (.dK [])) := e.trans (Ex.new hp)
  have hkp : Hk p = none := e.free hp
  refine ha _ _ e1 (hb _ e1 _ fun v H2 F g hv => ?_)
  have hp2 : H2 p = some (.dK []) := g.h _ _ upd_same
  refine ⟨hp2, [(.inr (S n), v)], rfl, by show 1 ≤ 15; decide, ?_⟩
  have fp : F p = none := by
    cases z : F p with
    | none => rfl
    | some o => have := g.n p hkp (by rw [z]; exact fun z => nomatch z); rw [upd_same] at this; cases this
  refine q _ _ (upd F p (.dK [(.inr (S n), v)])) ⟨fun a o h => ?_, g.k.trans (Ex.new fp), fun a o h => ?_, fun a h1 h2 => ?_⟩ ⟨p, v, rfl, upd_same, up (r := rTr) (Ex.new fp) hv⟩
  · have na : a ≠ p := ne_of_none h hp
    rw [upd_ne na]
    exact g.h _ _ (by rw [upd_ne na]; exact h)
  · by_cases z : a = p
    · subst z; rw [upd_same] at h ⊢; exact h
    · rw [upd_ne z] at h ⊢; exact g.f _ _ h
  · by_cases z : a = p
    · subst z; exact hp
    · rw [upd_ne z] at h2
      have := g.n a h1 h2
      rwa [upd_ne z] at this
/-- word not in a dict of numbers -/
theorem e_dni {g : W → Option Int} (ha : E rW ta σ Hk n) (hb : E rDg tb σ Hk g) : E rBl (tDNotIn ta tb) σ Hk (!(g n).isSome) := fun H e Q q => two ha hb H e _ fun v w H2 F gr hv hw => by
  cases hv
  obtain ⟨d, kvs, rfl, hd, hg⟩ := hw
  refine ⟨d, _, rfl, .inl ⟨kvs, .inr (S n), .inl (gr.f _ _ hd), rfl, rfl⟩, q _ H2 F gr ?_⟩
  show V.bl _ = V.bl _
  rw [hg]; cases g n <;> rfl
end
def spPi (C : Addr) : Sp := fun vs H Q _ => ∃ Hk, Ex Hk H ∧ ∃ v t nv n ov u, vs = [v, nv, ov] ∧ rFm C Hk v t ∧ rW Hk nv n ∧ rFm C Hk ov u ∧ preT t ∧ preT (put n u t) ∧ Res (rFm C) Hk H (put n u t) Q
theorem ok_put_in (T : Txt w K mg) : FnOk P w K mg base CX0 10 T.d_put_in.a T.d_put_in.fd ["formula", "name", "other"] (spPi T.cF) := by
  refine T.d_put_in.F.ok sc_put_in (fun vs H Q Ew h => ?_) (fun cdv A outer s H vs Q Ew hr h => ?_)
  · obtain ⟨_, _, v, t, nv, n, ov, u, rfl, _⟩ := h; rfl
  · obtain ⟨Hk, ex, v, t, nv, n, ov, u, rfl, hv, hn, hu, hp, hp2, q⟩ := h
    cases hn
    refine ⟨_, (pss_cons (ps_if (pt_cmpR op_notIn_seq (pv 1) (pe_fldK (K := K) rfl (pv 0) rfl) (by rfl)) (pss_one (ps_ret (pv 0))) pss_nil)
      (pss_one (ps_ret (pe_call (ok_formula_of T) (hr.mono (by decide)) (by rfl) T.g_formula_of T.d_formula_of.F.kp T.d_formula_of.b .nil pass0 (pa_cons (pe_call (ok_replaced T) (hr.mono (by decide)) (by rfl) T.g_replaced T.d_replaced.F.kp T.d_replaced.b .nil pass0 (pa_cons (pe_fldK (K := K) rfl (pv 0) rfl) (pa_cons (pe_disp (pps_cons (pv 1) (pe_fldK (K := K) rfl (pv 2) rfl) pps_nil) (by rfl) (by rfl) (fun z => by cases z) (by decide)) pa_nil))) pa_nil))))), ?_⟩
    refine s_if (K := Hk) (t_test (e_niT (n := n) (e_var rfl rfl) (e_names T (e_var hv rfl)))) ex (fun c H1 e1 => ?_) (fun c H1 e1 => ?_)
    · have c : n ∉ nms t := fun z => by
        have : ¬ n ∈ names t := by simpa using c
        exact this (mem_names.mpr z)
      exact s_ret ((e_var hv rfl).as (put_id c).symm) (ex.trans e1) (Res.at (r := rFm T.cF) ex e1 q)
    · unfold tNext
      dsimp only
      refine s_ret (e_c1 (f := id) (e_c2 (f := fun t p => put p.1 p.2 t) (y := (n, u)) (e_tree T (e_var hv rfl)) (e_tab (fun H Q e q => ⟨_, rfl, q⟩) (e_tree T (e_var hu rfl))) hp) hp2) (ex.trans e1) (Res.at (r := rFm T.cF) ex e1 q)
def missF (g : W → Option Int) (l : List W) : Option W := l.find? fun s => !(g s).isSome
def fsN (n : W) : List (Str × V) := fsX "name" "NoSuch" (S n)
def spDg (cF cS : Addr) : Sp := fun vs H Q E => ∃ Hk, Ex Hk H ∧ ∃ v t dv g, vs = [v, dv] ∧ rFm cF Hk v t ∧ rDg Hk dv g ∧ preT t ∧ (∀ s i, g s = some i → i.natAbs ≤ 7) ∧ (∀ s, figs s = true → g s = none) ∧
  (missF g (names t) = none → Res rInt Hk H (deg (dgf g) t) Q) ∧ (∀ n, missF g (names t) = some n → ResE cS (fsN n) Hk H E)
theorem ok_degree_of (T : Txt w K mg) : FnOk P w K mg base (L2N.CX P w) 4 T.d_degree_of.a T.d_degree_of.fd ["formula", "degrees"] (spDg T.cF T.cS) := by
  refine T.d_degree_of.F.okN sc_degree_of (fun vs H Q Ew h => ?_) (fun cdv A outer s H vs Q Ew hr h => ?_)
  · obtain ⟨_, _, _, _, _, _, rfl, _⟩ := h; rfl
  · obtain ⟨Hk, ex, v, t, dv, gf, rfl, hv, hd, hp, hsm, hfg, q1, q2⟩ := h
    refine ⟨_, (pss_cons (ps_for (passes_of rfl) rfl (pi_tup (pe_fldK (K := K) rfl (pv 0) rfl)) (pg_name (i := 2) sc_degree_of.nd rfl (Or.inl rfl) (hf := Or.inr rfl))
      (pss_one (ps_if (pt_cmp (pc_dnotin (hu_of hr) (pv 2) (pv 1))) (pss_one (L2N.ps_raise rfl (L2N.takes_of rfl rfl rfl rfl) (pmkLE T.oxS T.iS T.tS (ok_NoSuch_init T) (hr.mono (by decide)) T.d_NoSuch_init.b .nil pass00 (by rfl) T.g_NoSuch (pa_cons (pv 2) pa_nil)))) pss_nil)))
      (pss_one (ps_ret (pe_call (ok_tree_degree T) (hr.mono (by decide)) (by rfl) T.g_tree_degree T.d_tree_degree.F.kp T.d_tree_degree.b .nil pass0 (pa_cons (pe_fldK (K := K) rfl (pv 0) rfl) (pa_cons (pv 1) pa_nil)))))), ?_⟩
    refine g_forT (K := K) (r := rW) (e_names T (e_var hv rfl)) (GM.start ex) (fun rest F M' σ' => ∃ (done : List W) (a : Option V), names t = done ++ rest ∧ σ' = [some v, some dv, a] ∧ Ex Hk F ∧ ∀ x ∈ done, (gf x).isSome = true)
      (fun F e => ⟨[], none, rfl, rfl, e, fun _ z => (nomatch z)⟩) (fun l F F' M' σ' e ⟨done, a, i1, i2, i3, i4⟩ => ⟨done, a, i1, i2, i3.trans e, i4⟩) ?_ ?_
    · rintro F0 e0 x rest xv F M' σ' H' ⟨done, a, jj, rfl, i3, i4⟩ g ef hx
      cases hx
      dsimp only [gName, List.set]
      refine g_if (t_b (e_dni (n := x) (g := gf) (e_var rfl rfl) (e_var (up (r := rDg) (i3.trans g.jle) hd) rfl))) g (fun c H1 g1 => ?_) (fun c H1 g1 => ?_)
      · have hmiss : missF gf (names t) = some x := by
          unfold missF
          rw [jj, List.find?_append, List.find?_eq_none.mpr (fun y hy => by rw [i4 y hy]; simp), Option.none_or, List.find?_cons, c]
        exact s_exc (z := S x) (ea_cons (r := rStr) (e_var rfl rfl) ea_nil) g1.f ((q2 x hmiss).from g1.done)
      · refine ⟨F, M', g1, ef, done ++ [x], _, by rw [jj]; simp, rfl, i3, fun y hy => ?_⟩
        rcases List.mem_append.mp hy with z | z
        · exact i4 y z
        · cases List.mem_singleton.mp z; simpa using c
    · rintro F M' σ' H' ⟨done, a, jj, rfl, i3, i4⟩ g ef
      rw [List.append_nil] at jj
      subst jj
      have hmiss : missF gf (names t) = none := List.find?_eq_none.mpr fun x hx => by rw [i4 x hx]; simp
      have hkn : knows gf t := ⟨fun s hs => Option.isSome_iff_exists.mp (i4 s (mem_names.mpr hs)), hsm, hfg⟩
      refine s_ret (e_c2 (f := fun t g => deg (dgf g) t) (y := gf) (e_tree T (e_var (up (r := rFm T.cF) i3 hv) rfl)) (e_var (up (r := rDg) i3 hd) rfl) ⟨hp, hkn⟩) g.f ?_
      · intro v5 H5 F5 gr hv5
        exact q1 hmiss v5 H5 F5 (g.grow gr).done hv5
end
end F1

set_option Elab.async false
set_option linter.all false
set_option maxRecDepth 100000
set_option maxHeartbeats 4000000
/-! # The draws -/
namespace F1
open PySem L2 Y
open Pl hiding Sp Ss PA PB RA RW RP RS
section
variable {P : Program} {w : World} {K : PySem.W.Frag} {mg : Str → Option Value} {base : Heap}
theorem e_toInt {σ : L2.St} {Hk : Hp} {ta : TE} {i : Int} (h : E rInt ta σ Hk i) : E rInt (tCB rToInt (tCons ta tNil)) σ Hk i :=
  fun H a Q q => h H a _ fun v H2 F g hv => .inl ⟨i, by rw [hv], q _ H2 F g rfl⟩
theorem e_b2i {σ : L2.St} {Hk : Hp} {ta : TE} {b : Bool} (h : E rBl ta σ Hk b) : E rInt (tCB rToInt (tCons ta tNil)) σ Hk (if b then 1 else 0) :=
  fun H a Q q => h H a _ fun v H2 F g hv => .inr ⟨b, by rw [hv], q _ H2 F g rfl⟩
def dl (H : Hp) (o : Addr) : Hp := fun a => if a = o then none else H a
theorem dl_ne {F : Hp} {o a : Addr} (h : a ≠ o) : dl F o a = F a := if_neg h
theorem dl_same {F : Hp} {o : Addr} : dl F o o = none := if_pos rfl
abbrev jl (c : Addr) (i r l m n : Int) : List V := [.ref c, .int i, .int r, .int l, .int m, .int n]
def Ints (cs : List V) : Prop := ∀ v ∈ cs, ∃ k : Int, v = .int k
/-- a jar at o, its cells cs at c known to F -/
def JarC (c : Addr) (cs : List V) (F H : Hp) (o : Addr) : Prop := ∃ i r l m n : Int, H o = some (.lst (jl c i r l m n)) ∧ F c = some (.lst cs) ∧ Ints cs ∧ cs.length ≤ 100 ∧ 0 ≤ i ∧ 0 ≤ m ∧ m < 2147483647
theorem exDl {H H' : Hp} {o : Addr} (e : Ex H H') : Ex (dl H o) (dl H' o) := fun a u h => by
  by_cases z : a = o
  · subst z; rw [dl_same] at h; cases h
  · rw [dl_ne z] at h ⊢; exact e _ _ h
theorem growDl {K H F H' : Hp} {o : Addr} (g : Grow K H F H') : Grow (dl K o) (dl H o) (dl F o) (dl H' o) := ⟨exDl g.h, exDl g.k, exDl g.f, fun a h1 h2 => by
  by_cases z : a = o
  · subst z; exact absurd dl_same h2
  · rw [dl_ne z] at h1 h2 ⊢; exact g.n a h1 h2⟩
theorem dl_upd {H : Hp} {o : Addr} {u : HO} : dl (upd H o u) o = dl H o := funext fun a => by
  by_cases z : a = o
  · subst z; rw [dl_same, dl_same]
  · rw [dl_ne z, dl_ne z, upd_ne z]
theorem dl_none {F : Hp} {o : Addr} (h : F o = none) : dl F o = F := funext fun a => by
  by_cases z : a = o
  · subst z; rw [dl_same, h]
  · rw [dl_ne z]
theorem exOfDl {F H : Hp} {o : Addr} (h : Ex F (dl H o)) : Ex F H ∧ F o = none := ⟨fun a u e => by
  have := h a u e
  by_cases z : a = o
  · subst z; rw [dl_same] at this; cases this
  · rw [dl_ne z] at this; exact this, by
  cases z : F o with
  | none => rfl
  | some u => have := h o u z; rw [dl_same] at this; cases this⟩
/-- within a draw: F knows the jar -/
structure JS (o c : Addr) (cs : List V) (Hk H F H' : Hp) (i r l m n : Int) : Prop where
  g : Grow Hk (dl H o) (dl F o) (dl H' o)
  e : Ex F H'
  o : F o = some (.lst (jl c i r l m n))
  c : F c = some (.lst cs)
theorem JS.ex {o c : Addr} {cs : List V} {Hk H F H' H1 : Hp} {i r l m n : Int} (j : JS o c cs Hk H F H' i r l m n) (e : Ex H' H1) : JS o c cs Hk H F H1 i r l m n :=
  ⟨j.g.trans (Grow.of j.g.f (exDl e)), j.e.trans e, j.o, j.c⟩
theorem JS.grow {o c : Addr} {cs : List V} {Hk H F H' F2 H2 : Hp} {i r l m n : Int} (j : JS o c cs Hk H F H' i r l m n) (g : Grow F H' F2 H2) : JS o c cs Hk H F2 H2 i r l m n :=
  ⟨j.g.trans (growDl g), g.f, g.k _ _ j.o, g.k _ _ j.c⟩
theorem JS.put {o c : Addr} {cs : List V} {Hk H F H' : Hp} {i r l m n i' r' l' m' n' : Int} (hne : c ≠ o) (j : JS o c cs Hk H F H' i r l m n) : JS o c cs Hk H (upd F o (.lst (jl c i' r' l' m' n'))) (upd H' o (.lst (jl c i' r' l' m' n'))) i' r' l' m' n' := by
  refine ⟨by rw [dl_upd, dl_upd]; exact j.g, fun a u h => ?_, upd_same, by rw [upd_ne hne]; exact j.c⟩
  by_cases z : a = o
  · subst z; rw [upd_same] at h ⊢; exact h
  · rw [upd_ne z] at h ⊢; exact j.e _ _ h
section
variable {o c : Addr} {cs : List V} {Hk H F H' : Hp} {i r l m n : Int} {σ : L2.St} {D : Ends} {te : TE}
theorem e_j (hi : σ[0]? = some (some (.ref o))) (j : JS o c cs Hk H F H' i r l m n) {k : Nat} {x : Int} (hx : (jl c i r l m n)[k]? = some (.int x)) : E rInt (tOp (rIxL K) (tVar 0) (tC (.int (k : Int)))) σ F x :=
  fun H2 e Q q => ⟨.ref o, hi, o, _, _, _, rfl, rfl, sq_of (e _ _ j.o), atI_nat hx, q _ H2 F (Grow.refl e) rfl⟩
theorem s_j (hi : σ[0]? = some (some (.ref o))) (hne : c ≠ o) (j : JS o c cs Hk H F H' i r l m n) {k : Nat} {x i' r' l' m' n' : Int} (h : E rInt te σ F x) (hk : k < 6) (hs : (jl c i r l m n).set k (.int x) = jl c i' r' l' m' n') (kk : ∀ F2 H2, JS o c cs Hk H F2 H2 i' r' l' m' n' → D.nx σ H2) :
    tAsg te (gSub (tVar 0) (tC (.int (k : Int))) rSetL) D σ H' := h H' j.e _ fun v H2 F2 g hv => by
  cases hv
  have j2 := j.grow g
  refine ⟨.ref o, hi, o, _, (k : Int), k, rfl, rfl, j2.e _ _ j2.o, ?_, ?_⟩
  · unfold ixN; rw [if_pos (by omega), if_pos (by show (k : Int) < 6; omega)]; simp
  · rw [hs]; exact kk _ _ (j2.put hne)
theorem s_jx (hi : σ[0]? = some (some (.ref o))) (hne : c ≠ o) (j : JS o c cs Hk H F H' i r l m n) (h : ∃ x, E rInt te σ F x) (kk : ∀ x F2 H2, JS o c cs Hk H F2 H2 i x l m n → D.nx σ H2) :
    tAsg te (gSub (tVar 0) (tC (.int 2)) rSetL) D σ H' := by
  obtain ⟨x, h⟩ := h
  exact s_j hi hne j (k := 2) h (by decide) rfl (kk x)
theorem e_lenC (hi : σ[0]? = some (some (.ref o))) (j : JS o c cs Hk H F H' i r l m n) : E rInt (tCB (Y.rLen K) (tCons (tOp (rIxL K) (tVar 0) (tC (.int 0))) tNil)) σ F (cs.length : Int) :=
  fun H2 e Q q => ⟨.ref o, hi, o, _, _, _, rfl, rfl, sq_of (e _ _ j.o), rfl, c, cs, rfl, .inl (sq_of (e _ _ j.c)), q _ H2 F (Grow.refl e) rfl⟩
theorem e_cell (hi : σ[0]? = some (some (.ref o))) (j : JS o c cs Hk H F H' i r l m n) {x : Int} (h0 : 0 ≤ i) (hx : cs[i.toNat]? = some (.int x)) : E rInt (tOp (rIxL K) (tOp (rIxL K) (tVar 0) (tC (.int 0))) (tOp (rIxL K) (tVar 0) (tC (.int 1)))) σ F x :=
  fun H2 e Q q => ⟨.ref o, hi, o, _, _, _, rfl, rfl, sq_of (e _ _ j.o), rfl, .ref o, hi, o, _, _, _, rfl, rfl, sq_of (e _ _ j.o), rfl, c, cs, i, _, rfl, rfl, sq_of (e _ _ j.c), by
    have := atI_nat hx
    rwa [Int.toNat_of_nonneg h0] at this, q _ H2 F (Grow.refl e) rfl⟩
end
theorem fm (a : Int) {b : Int} (h : 0 < b) : 0 ≤ a.fmod b ∧ a.fmod b < b := by
  rw [Int.fmod_eq_emod_of_nonneg _ (by omega)]
  exact ⟨Int.emod_nonneg _ (by omega), Int.emod_lt_of_pos _ h⟩
theorem cmL {i j : Int} (h : 0 ≤ i ∧ i < 2147483647) : CMul i j := .inl ⟨by omega, by omega⟩
theorem cmR {i j : Int} (h : 0 ≤ j ∧ j < 2147483647) : CMul i j := .inr ⟨by omega, by omega⟩
theorem cdS {i j : Int} (h : 0 < j ∧ j < 2147483647) : CDivX i j := cdivX (b := 31) (by omega) (by omega) (by decide) (by decide)
theorem e_half {o c : Addr} {cs : List V} {Hk H F H' : Hp} {i r l m n many : Int} {σ : L2.St} (hi : σ[0]? = some (some (.ref o))) (hm : σ[1]? = some (some (.int many))) (j : JS o c cs Hk H F H' i r l m n) (p0 : 0 < many) (p1 : many < 1000000) :
    ∃ x, E rInt (tIf (tTest (tOp (rI0 fun i j => .bl (decide (i > j))) (tOp (rIxL K) (tVar 0) (tC (.int 3))) (tC (.int 0)))) (tOp (rI CDivX fun i j => .int (i.fdiv j)) (tOp (rIxL K) (tVar 0) (tC (.int 2))) (tVar 1)) (tC (.int 0))) σ F x := by
  refine ⟨if l > 0 then r.fdiv many else 0, e_if (b := decide (l > 0)) (t_test (e_b0 (p := fun i j => decide (i > j)) (e_j (k := 3) hi j rfl) e_int)) (fun cc => ?_) (fun cc => ?_)⟩
  · rw [if_pos (of_decide_eq_true cc)]
    exact e_i (C := CDivX) (f := fun i j => i.fdiv j) (e_j (k := 2) hi j rfl) (e_var (x := many) rfl hm) (cdS ⟨p0, by omega⟩)
  · rw [if_neg (of_decide_eq_false cc)]
    exact e_int
def spDraw : Sp := fun vs H Q _ => ∃ Hk, Ex Hk H ∧ ∃ o c cs, ∃ many : Int, vs = [.ref o, .int many] ∧ Hk o = none ∧ JarC c cs Hk H o ∧ 0 < many ∧ many < 1000000 ∧ ∀ (d : Int) H' F, 0 ≤ d → d < many → Grow Hk (dl H o) F (dl H' o) → JarC c cs F H' o → Q (.int d) H'
theorem okD_law_draw (T : Txt w K mg) : FnOk P w K mg base CX0 1 T.d__law_draw.a T.d__law_draw.fd ["jar", "many"] spDraw := by
  refine T.d__law_draw.F.ok sc__law_draw (fun vs H Q Ew h => ?_) (fun cdv A outer s H vs Q Ew hr h => ?_)
  · obtain ⟨_, _, _, _, _, _, rfl, _⟩ := h; rfl
  · obtain ⟨Hk, ex, o, c, cs, many, rfl, hko, ⟨i, r, l, m, n, ho, hc, hint, hcl, h0, m0, m1⟩, p0, p1, q⟩ := h
    refine ⟨_, (pss_cons (ps_asg (pe_op op_add (pe_ix (ix_listK (K := K) rfl) (pv 0) pe_int (fun _ _ => rfl)) pe_int) (pg_sub (pv 0) pe_int set_list))
      (pss_cons (ps_if (PW.pt (pw_and (pt_cmpR op_eq (pe_ix (ix_listK (K := K) rfl) (pv 0) pe_int (fun _ _ => rfl)) pe_int (nomark _)) (pw_and1 (pt_cmpR op_lt (pe_ix (ix_listK (K := K) rfl) (pv 0) pe_int (fun _ _ => rfl)) (pe_callB (c_lenK (K := K) rfl) (by rfl) T.n_len (by decide +kernel) (pa_cons (pe_ix (ix_listK (K := K) rfl) (pv 0) pe_int (fun _ _ => rfl)) pa_nil)) (nomark _))))) (pss_cons (ps_set (i := 2) sc__law_draw.nd rfl (Or.inl rfl) (pe_ix (ix_listK (K := K) rfl) (pe_ix (ix_listK (K := K) rfl) (pv 0) pe_int (fun _ _ => rfl)) (pe_ix (ix_listK (K := K) rfl) (pv 0) pe_int (fun _ _ => rfl)) (fun _ _ => rfl)))
      (pss_cons (ps_asg (pe_op op_add (pe_ix (ix_listK (K := K) rfl) (pv 0) pe_int (fun _ _ => rfl)) pe_int) (pg_sub (pv 0) pe_int set_list))
      (pss_one (ps_if (pt_cmpR op_ge (pv 2) (pe_op op_pow pe_int pe_int) (nomark _)) (pss_cons (ps_asg (pv 2) (pg_sub (pv 0) pe_int set_list))
      (pss_one (ps_asg pe_int (pg_sub (pv 0) pe_int set_list)))) (pss_one (ps_asg (pe_op op_modN (pe_callTy c_toInt (by rfl) T.n_int (by decide +kernel) (pa_cons (pe_op op_add (pe_op op_add (pe_op op_mul (pe_ix (ix_listK (K := K) rfl) (pv 0) pe_int (fun _ _ => rfl)) pe_int) (pe_op op_modN (pe_callTy c_toInt (by rfl) T.n_int (by decide +kernel) (pa_cons (pv 2) pa_nil)) pe_int)) pe_int) pa_nil)) pe_int) (pg_sub (pv 0) pe_int set_list))))))) pss_nil)
      (pss_cons (ps_if (pt_cmpR op_gt (pe_ix (ix_listK (K := K) rfl) (pv 0) pe_int (fun _ _ => rfl)) pe_int (nomark _)) (pss_cons (ps_set (i := 3) sc__law_draw.nd rfl (Or.inl rfl) (pe_op op_modN (pe_callTy c_toInt (by rfl) T.n_int (by decide +kernel) (pa_cons (pe_ix (ix_listK (K := K) rfl) (pv 0) pe_int (fun _ _ => rfl)) pa_nil)) (pv 1)))
      (pss_cons (ps_asg (pe_op op_sub (pe_ix (ix_listK (K := K) rfl) (pv 0) pe_int (fun _ _ => rfl)) pe_int) (pg_sub (pv 0) pe_int set_list))
      (pss_cons (ps_asg (pe_ifExp (pt_cmpR op_gt (pe_ix (ix_listK (K := K) rfl) (pv 0) pe_int (fun _ _ => rfl)) pe_int (nomark _)) (pe_op op_fdX (pe_ix (ix_listK (K := K) rfl) (pv 0) pe_int (fun _ _ => rfl)) (pv 1)) pe_int) (pg_sub (pv 0) pe_int set_list))
      (pss_one (ps_ret (pv 3)))))) pss_nil)
      (pss_cons (ps_asg (pe_op op_modN (pe_callTy c_toInt (by rfl) T.n_int (by decide +kernel) (pa_cons (pe_op op_add (pe_op op_add (pe_op op_add (pe_op op_mul (pe_op op_mul (pe_ix (ix_listK (K := K) rfl) (pv 0) pe_int (fun _ _ => rfl)) (pe_ix (ix_listK (K := K) rfl) (pv 0) pe_int (fun _ _ => rfl))) pe_int) (pe_op op_mul (pe_ix (ix_listK (K := K) rfl) (pv 0) pe_int (fun _ _ => rfl)) pe_int)) (pe_op op_mul (pe_ix (ix_listK (K := K) rfl) (pv 0) pe_int (fun _ _ => rfl)) pe_int)) pe_int) pa_nil)) pe_int) (pg_sub (pv 0) pe_int set_list))
      (pss_one (ps_ret (pe_op op_modN (pe_callTy c_toInt (by rfl) T.n_int (by decide +kernel) (pa_cons (pe_op op_add (pe_op op_fdX (pe_ix (ix_listK (K := K) rfl) (pv 0) pe_int (fun _ _ => rfl)) pe_int) (pe_op op_mul (pe_op op_modN (pe_callTy c_toInt (by rfl) T.n_int (by decide +kernel) (pa_cons (pe_ix (ix_listK (K := K) rfl) (pv 0) pe_int (fun _ _ => rfl)) pa_nil)) pe_int) pe_int)) pa_nil)) (pv 1)))))))), ?_⟩
    have hne : c ≠ o := fun z => by rw [z, hko] at hc; cases hc
    have js0 : JS o c cs Hk H (upd Hk o (.lst (jl c i r l m n))) H i r l m n := by
      refine ⟨?_, Ex.put ex ho, upd_same, by rw [upd_ne hne]; exact hc⟩
      rw [dl_upd, dl_none hko]
      refine Grow.refl fun a u h => ?_
      have z : a ≠ o := fun z => by rw [z, hko] at h; cases h
      rw [dl_ne z]; exact ex _ _ h
    refine s_j (i' := i) (r' := r) (l' := l) (m' := m) (n' := n + 1) rfl hne js0 (k := 5) (e_i0 (e_j (k := 5) rfl js0 rfl) e_int) (by decide) rfl fun F1 H1 js1 => ?_
    clear js0
    have fin : ∀ {D : Ends} {σ : L2.St} {te : TE} {F H' : Hp} {i r l m n : Int} {d : Int}, D.rt = Q → JS o c cs Hk H F H' i r l m n → 0 ≤ i → 0 ≤ m → m < 2147483647 → 0 ≤ d → d < many → E rInt te σ F d → tRet te D σ H' := by
      intro D σ te F H' i r l m n d hD js hi hm hm' hd hd' he
      refine he H' js.e _ fun v H2 F2 g hv => ?_
      cases hv
      rw [hD]
      have j2 := js.grow g
      exact q d H2 (dl F2 o) hd hd' j2.g ⟨i, r, l, m, n, j2.e _ _ j2.o, by rw [dl_ne hne]; exact j2.c, hint, hcl, hi, hm, hm'⟩
    dsimp only
    refine s_if (K := F1) (b := decide (r = 0) && decide (i < cs.length)) (t_and (t_test (e_eqI (e_j (k := 2) rfl js1 rfl) e_int)) fun _ => t_test (e_b0 (p := fun i j => decide (i < j)) (e_j (k := 1) rfl js1 rfl) (e_lenC rfl js1))) js1.e (fun cc Hx ez => ?yes) (fun cc Hx ez => ?no)
    case' yes =>
      rw [Bool.and_eq_true, decide_eq_true_eq, decide_eq_true_eq] at cc
      have js1 := js1.ex ez
      obtain ⟨x, hx⟩ : ∃ x : Int, cs[i.toNat]? = some (.int x) := by
        have hlt : i.toNat < cs.length := by omega
        obtain ⟨x, hx⟩ := hint _ (List.getElem_mem hlt)
        exact ⟨x, by rw [List.getElem?_eq_getElem hlt, hx]⟩
      refine s_set (r := rInt) (x := x) (e_cell rfl js1 h0 hx) js1.e fun v2 H2 F2 g2 hv2 => ?_
      cases hv2
      have js2 := js1.grow g2
      dsimp only
      refine s_j (i' := i + 1) (r' := r) (l' := l) (m' := m) (n' := n + 1) rfl hne js2 (k := 1) (e_i0 (e_j (k := 1) rfl js2 rfl) e_int) (by decide) rfl fun F3 H3 js3 => ?_
      dsimp only
      refine s_if (K := F3) (b := decide (x ≥ 10 ^ 18)) (t_test (e_b0 (p := fun i j => decide (i ≥ j)) (e_var (x := x) rfl rfl) (e_i (C := CPow) (f := fun i j => i ^ j.toNat) e_int e_int ⟨by decide, by decide, by decide⟩))) js3.e (fun c2 Hy ey => ?big) (fun c2 Hy ey => ?small)
      case' big =>
        have js3 := js3.ex ey
        refine s_j (i' := i + 1) (r' := x) (l' := l) (m' := m) (n' := n + 1) rfl hne js3 (k := 2) (e_var (x := x) rfl rfl) (by decide) rfl fun F4 H4 js4 => ?_
        dsimp only
        refine s_j (i' := i + 1) (r' := x) (l' := 60) (m' := m) (n' := n + 1) rfl hne js4 (k := 3) e_int (by decide) rfl fun F5 H5 js => ?_
        have i0 : 0 ≤ i + 1 := by omega
        have mm0 := m0
        have mm1 := m1
        clear js1 js2 js3 js4
      case' small =>
        have js3 := js3.ex ey
        refine s_j (i' := i + 1) (r' := r) (l' := l) (m' := (m * 40692 + x.fmod 2147483629 + 91).fmod 2147483647) (n' := n + 1) rfl hne js3 (k := 4) (e_i (C := fun _ j => j ≠ 0) (f := fun i j => i.fmod j) (e_toInt (e_i0 (f := fun i j => i + j) (e_i0 (f := fun i j => i + j) (e_i (C := CMul) (f := fun i j => i * j) (e_j (k := 4) rfl js3 rfl) e_int (cmL ⟨m0, m1⟩)) (e_i (C := fun _ j => j ≠ 0) (f := fun i j => i.fmod j) (e_toInt (e_var (x := x) rfl rfl)) e_int (by decide))) e_int)) e_int (by decide)) (by decide) rfl fun F5 H5 js => ?_
        have i0 : 0 ≤ i + 1 := by omega
        have mm0 := (fm (m * 40692 + x.fmod 2147483629 + 91) (b := 2147483647) (by decide)).1
        have mm1 := (fm (m * 40692 + x.fmod 2147483629 + 91) (b := 2147483647) (by decide)).2
        clear js1 js2 js3
    case' no =>
      have js := js1.ex ez
      have i0 := h0
      have mm0 := m0
      have mm1 := m1
      clear js1
    all_goals
      dsimp only
      refine s_if (t_test (e_b0 (p := fun i j => decide (i > j)) (e_j (k := 2) rfl js rfl) e_int)) js.e (fun c5 Hz e5 => ?_) (fun c5 Hz e5 => ?_)
      · have js := js.ex e5
        refine s_set (r := rInt) (e_i (C := fun _ j => j ≠ 0) (f := fun i j => i.fmod j) (e_toInt (e_j (k := 2) rfl js rfl)) (e_var (x := many) rfl rfl) (by omega)) js.e fun v6 H6 F6 g6 hv6 => ?_
        cases hv6
        have js := js.grow g6
        dsimp only
        refine s_j rfl hne js (k := 3) (e_i0 (f := fun i j => i - j) (e_j (k := 3) rfl js rfl) e_int) (by decide) rfl fun F7 H7 js => ?_
        dsimp only
        refine s_jx rfl hne js (e_half (K := K) (many := many) rfl rfl js p0 p1) fun y F8 H8 js => ?_
        exact fin rfl js i0 mm0 mm1 (fm _ p0).1 (fm _ p0).2 (e_var rfl rfl)
      · have js := js.ex e5
        dsimp only
        refine s_j rfl hne js (k := 4) (e_i (C := fun _ j => j ≠ 0) (f := fun i j => i.fmod j) (e_toInt (e_i0 (f := fun i j => i + j) (e_i0 (f := fun i j => i + j) (e_i0 (f := fun i j => i + j) (e_i (C := CMul) (f := fun i j => i * j) (e_i (C := CMul) (f := fun i j => i * j) (e_j (k := 4) rfl js rfl) (e_j (k := 4) rfl js rfl) (cmL ⟨mm0, mm1⟩)) e_int (cmR (by decide))) (e_i (C := CMul) (f := fun i j => i * j) (e_j (k := 4) rfl js rfl) e_int (cmL ⟨mm0, mm1⟩))) (e_i (C := CMul) (f := fun i j => i * j) (e_j (k := 5) rfl js rfl) e_int (cmR (by decide)))) e_int)) e_int (by decide)) (by decide) rfl fun F7 H7 js => ?_
        refine fin rfl js i0 (fm _ (by decide)).1 (fm _ (by decide)).2 (fm _ p0).1 (fm _ p0).2 (e_i (C := fun _ j => j ≠ 0) (f := fun i j => i.fmod j) (e_toInt (e_i0 (f := fun i j => i + j) (e_i (C := CDivX) (f := fun i j => i.fdiv j) (e_j (k := 4) rfl js rfl) e_int (cdS (by decide))) (e_i (C := CMul) (f := fun i j => i * j) (e_i (C := fun _ j => j ≠ 0) (f := fun i j => i.fmod j) (e_toInt (e_j (k := 4) rfl js rfl)) e_int (by decide)) e_int (cmR (by decide))))) (e_var (x := many) rfl rfl) (by omega))
/-! ### the jar among what is own -/
def Jar (K M : Hp) (o : Addr) : Prop := ∃ c cs, ∃ i r l m n : Int, M o = some (.lst (jl c i r l m n)) ∧ K c = some (.lst cs) ∧ Ints cs ∧ cs.length ≤ 100 ∧ 0 ≤ i ∧ 0 ≤ m ∧ m < 2147483647
theorem Jar.up {K K' M : Hp} {o : Addr} (h : Jar K M o) (e : Ex K K') : Jar K' M o := by
  obtain ⟨c, cs, i, r, l, m, n, h1, h2, h3⟩ := h
  exact ⟨c, cs, i, r, l, m, n, h1, e _ _ h2, h3⟩
theorem Jar.m {K M M' : Hp} {o : Addr} (h : Jar K M o) (e : M' o = M o) : Jar K M' o := by
  obtain ⟨c, cs, i, r, l, m, n, h1, h3⟩ := h
  exact ⟨c, cs, i, r, l, m, n, by rw [e]; exact h1, h3⟩
theorem gm_dl {Kx H M F' H' : Hp} {o : Addr} {u u' : HO} (hk : Ex Kx (sub H M)) (hm : Ex M H) (ho : M o = some u) (g : Grow (join Kx (Y.del M o)) (dl H o) F' (dl H' o)) (hj : H' o = some u') : GM Kx H M (sub F' M) H' (upd M o u') := by
  have km : ∀ {a x}, Kx a = some x → M a = none := fun {a x} h => by
    cases z : M a with
    | none => rfl
    | some y => have := hk a x h; rw [sub_some z] at this; cases this
  have fo : F' o = none := by
    cases z : F' o with
    | none => rfl
    | some y => have := g.f o y z; rw [dl_same] at this; cases this
  have ne : ∀ {a}, M a = none → a ≠ o := fun {a} h z => by subst z; rw [ho] at h; cases h
  refine ⟨⟨fun a x h => ?_, fun a x h => ?_, fun a x h => ?_, fun a h1 h2 => ?_⟩, fun a x h => ?_⟩
  · cases z : M a with
    | some y => rw [sub_some z] at h; cases h
    | none =>
      rw [sub_none z] at h
      have := g.h a x (by rw [dl_ne (ne z)]; exact h)
      rw [dl_ne (ne z)] at this
      rw [sub_none (by rw [upd_ne (ne z)]; exact z)]; exact this
  · rw [sub_none (km h)]; exact g.k a x (Ex.joinl _ _ _ _ h)
  · cases z : M a with
    | some y => rw [sub_some z] at h; cases h
    | none =>
      rw [sub_none z] at h
      have := g.f a x h
      rw [dl_ne (ne z)] at this
      rw [sub_none (by rw [upd_ne (ne z)]; exact z)]; exact this
  · cases z : M a with
    | some y => exact absurd (sub_some z) h2
    | none =>
      rw [sub_none z] at h2
      have h3 : join Kx (Y.del M o) a = none := by
        unfold join
        rw [h1]
        rw [Y.del_ne (ne z)]; exact z
      have := g.n a h3 h2
      rw [dl_ne (ne z)] at this
      rw [sub_none z]; exact this
  · by_cases z : a = o
    · subst z; rw [upd_same] at h; cases h; exact hj
    · rw [upd_ne z] at h
      have hka : Kx a = none := by
        cases y : Kx a with
        | none => rfl
        | some w => rw [km y] at h; cases h
      have h3 : join Kx (Y.del M o) a = some x := by
        unfold join
        rw [hka, Y.del_ne z]; exact h
      have := g.f a x (g.k a x h3)
      rwa [dl_ne z] at this
/-- a function of the jar and of what else is handed in -/
def spJ {α β : Type} (r : Rp α) (pre : α → Prop) (s : Rp β) (post : α → β → Prop) : Sp := fun vs H Q _ => ∃ Hk M o v x, vs = [.ref o, v] ∧ Ex Hk (sub H M) ∧ Ex M H ∧ Jar Hk M o ∧ r Hk v x ∧ pre x ∧
  ∀ u y H' F M', GM Hk H M F H' M' → Jar F M' o → (∀ a, a ≠ o → M' a = M a) → s F u y → post x y → Q u H'
def spJ0 {β : Type} (s : Rp β) (post : β → Prop) : Sp := fun vs H Q _ => ∃ Hk M o, vs = [.ref o] ∧ Ex Hk (sub H M) ∧ Ex M H ∧ Jar Hk M o ∧
  ∀ u y H' F M', GM Hk H M F H' M' → Jar F M' o → (∀ a, a ≠ o → M' a = M a) → s F u y → post y → Q u H'
def spJ2 {α γ β : Type} (r : Rp α) (r2 : Rp γ) (pre : α → γ → Prop) (s : Rp β) (post : α → γ → β → Prop) : Sp := fun vs H Q _ => ∃ Hk M o v x v2 x2, vs = [.ref o, v, v2] ∧ Ex Hk (sub H M) ∧ Ex M H ∧ Jar Hk M o ∧ r Hk v x ∧ r2 Hk v2 x2 ∧ pre x x2 ∧
  ∀ u y H' F M', GM Hk H M F H' M' → Jar F M' o → (∀ a, a ≠ o → M' a = M a) → s F u y → post x x2 y → Q u H'
def dPre (m : Int) : Prop := 0 < m ∧ m < 1000000
def dPost (m d : Int) : Prop := 0 ≤ d ∧ d < m
theorem ok__law_draw (T : Txt w K mg) : FnOk P w K mg base CX0 1 T.d__law_draw.a T.d__law_draw.fd ["jar", "many"] (spJ rInt dPre rInt dPost) :=
  (okD_law_draw T).imp fun vs H Q E h => by
    obtain ⟨Hk, M, o, v, many, rfl, h1, h2, ⟨c, cs, i, r, l, m, n, ho, hc, hi, hl, i0, m0, m1⟩, hv, ⟨p0, p1⟩, q⟩ := h
    cases hv
    have km : ∀ {a x}, Hk a = some x → M a = none := fun {a x} h => by
      cases z : M a with
      | none => rfl
      | some y => have := h1 a x h; rw [sub_some z] at this; cases this
    have hko : Hk o = none := by
      cases z : Hk o with
      | none => rfl
      | some y => rw [km z] at ho; cases ho
    refine ⟨join Hk (Y.del M o), fun a x h => ?_, o, c, cs, many, rfl, ?_, ⟨i, r, l, m, n, h2 _ _ ho, Ex.joinl _ _ _ _ hc, hi, hl, i0, m0, m1⟩, p0, p1, fun d H' F d0 d1 g jc => ?_⟩
    · unfold join at h
      cases z : Hk a with
      | some y => rw [z] at h; cases h; exact sub_le _ _ (h1 _ _ z)
      | none =>
        rw [z] at h
        by_cases y : a = o
        · subst y; rw [Y.del_same] at h; cases h
        · rw [Y.del_ne y] at h; exact h2 _ _ h
    · unfold join; rw [hko, Y.del_same]
    · obtain ⟨i', r', l', m', n', ho', hc', hi', hl', i0', m0', m1'⟩ := jc
      have gg := gm_dl h1 h2 ho g ho'
      exact q _ d H' _ _ gg ⟨c, cs, i', r', l', m', n', upd_same, by rw [sub_none (km hc)]; exact hc', hi', hl', i0', m0', m1'⟩ (fun a ha => upd_ne ha) rfl ⟨d0, d1⟩
end
end F1

set_option Elab.async false
set_option linter.all false
set_option autoImplicit false
set_option maxRecDepth 100000
set_option maxHeartbeats 4000000
/-! # Readings with draws in them -/
namespace F1
open PySem L2 Y
open Pl hiding Sp Ss PA PB RA RW RP RS
/-- a reading with draws: the jar may change, what is known grows -/
def EJ {α : Type} (o : Addr) (r : Rp α) (Pp : α → Prop) (te : TE) (σ : L2.St) (Hk : Hp) : Prop := ∀ K0 H0 M0 F0 H M, GM K0 H0 M0 F0 H M → Ex Hk F0 → Jar F0 M o → ∀ Q : VK,
  (∀ v x H' F M', GM K0 H0 M0 F H' M' → Ex F0 F → Jar F M' o → (∀ a, a ≠ o → M' a = M a) → r F v x → Pp x → Q v H') → te σ H Q
def TJ (o : Addr) (Pb : Bool → Prop) (tt : TT) (σ : L2.St) (Hk : Hp) : Prop := ∀ K0 H0 M0 F0 H M, GM K0 H0 M0 F0 H M → Ex Hk F0 → Jar F0 M o → ∀ Q : Bool → Hp → Prop,
  (∀ b H' F M', GM K0 H0 M0 F H' M' → Ex F0 F → Jar F M' o → (∀ a, a ≠ o → M' a = M a) → Pb b → Q b H') → tt σ H Q
def EJA {α : Type} (o : Addr) (r : Rp α) (Pp : List α → Prop) (ta : TA) (σ : L2.St) (Hk : Hp) : Prop := ∀ K0 H0 M0 F0 H M, GM K0 H0 M0 F0 H M → Ex Hk F0 → Jar F0 M o → ∀ Q : List V → Hp → Prop,
  (∀ vs xs H' F M', GM K0 H0 M0 F H' M' → Ex F0 F → Jar F M' o → (∀ a, a ≠ o → M' a = M a) → Paired (r F) vs xs → Pp xs → Q vs H') → ta σ H Q
section
variable {P : Program} {w : World} {K : PySem.W.Frag} {mg : Str → Option Value} {base : Heap}
section
variable {α β γ : Type} {o : Addr} {r : Rp α} {s : Rp β} {r2 : Rp γ} {σ : L2.St} {Hk Hk' : Hp} {ta tb te : TE} {tr : TA} {tt t1 t2 : TT} {P1 P1' : α → Prop} {P2 : β → Prop} {Pb Pc : Bool → Prop} {Ew : XK} {x : α} {y : β}
theorem EJ.mono (h : EJ o r P1 te σ Hk) (e : Ex Hk Hk') : EJ o r P1 te σ Hk' := fun K0 H0 M0 F0 H M g e' J Q q => h K0 H0 M0 F0 H M g (e.trans e') J Q q
theorem EJ.imp (h : EJ o r P1 te σ Hk) (hp : ∀ x, P1 x → P1' x) : EJ o r P1' te σ Hk := fun K0 H0 M0 F0 H M g e' J Q q => h K0 H0 M0 F0 H M g e' J Q fun v x H' F M' g2 e2 J2 hm hv hx => q v x H' F M' g2 e2 J2 hm hv (hp x hx)
theorem EJ.map (h : EJ o r P1 te σ Hk) (hp : ∀ F v x, r F v x → P1 x → ∃ y, s F v y ∧ P2 y) : EJ o s P2 te σ Hk := fun K0 H0 M0 F0 H M g e' J Q q => h K0 H0 M0 F0 H M g e' J Q fun v x H' F M' g2 e2 J2 hm hv hx => by
  obtain ⟨y, h1, h2⟩ := hp F v x hv hx
  exact q v y H' F M' g2 e2 J2 hm h1 h2
theorem EJ.of [Mono r] (h : E r te σ Hk x) (hp : P1 x) : EJ o r P1 te σ Hk := fun K0 H0 M0 F0 H M g e J Q q =>
  g_e (h.mono e) g fun v H2 F g2 e2 hv => q v x H2 F M g2 e2 (J.up e2) (fun _ _ => rfl) hv hp
theorem TJ.of {b : Bool} (h : T tt σ Hk b) : TJ o (fun c => c = b) tt σ Hk := fun K0 H0 M0 F0 H M g e J Q q => h H (e.trans g.f) Q fun H2 e2 => q b H2 F0 M (g.ex e2) (Ex.refl _) J (fun _ _ => rfl) rfl
theorem TJ.test (h : EJ o rBl Pb te σ Hk) : TJ o Pb (tTest te) σ Hk := fun K0 H0 M0 F0 H M g e J Q q => h K0 H0 M0 F0 H M g e J _ fun v b H' F M' g2 e2 J2 hm hv hp => ⟨b, hv, q b H' F M' g2 e2 J2 hm hp⟩
theorem TJ.b (h : EJ o rBl Pb te σ Hk) : TJ o Pb (tB te) σ Hk := fun K0 H0 M0 F0 H M g e J Q q => h K0 H0 M0 F0 H M g e J _ fun v b H' F M' g2 e2 J2 hm hv hp => ⟨b, hv, q b H' F M' g2 e2 J2 hm hp⟩
theorem TJ.not (h : TJ o Pb tt σ Hk) : TJ o (fun b => Pb (!b)) (tNot tt) σ Hk := fun K0 H0 M0 F0 H M g e J Q q => h K0 H0 M0 F0 H M g e J _ fun b H' F M' g2 e2 J2 hm hp => q (!b) H' F M' g2 e2 J2 hm (by show Pb (!(!b)); rw [Bool.not_not]; exact hp)
theorem TJ.and (h1 : TJ o Pb t1 σ Hk) (h2 : Pb true → TJ o Pc t2 σ Hk) : TJ o (fun b => (b = false ∧ (Pb false ∨ (Pb true ∧ Pc false))) ∨ (b = true ∧ Pb true ∧ Pc true)) (tAnd t1 t2) σ Hk := fun K0 H0 M0 F0 H M g e J Q q => h1 K0 H0 M0 F0 H M g e J _ fun b H' F M' g2 e2 J2 hm hp => by
  cases b with
  | false => exact q false H' F M' g2 e2 J2 hm (.inl ⟨rfl, .inl hp⟩)
  | true =>
    refine h2 hp K0 H0 M0 F H' M' g2 (e.trans e2) J2 Q fun c H3 F3 M3 g3 e3 J3 hm3 hc => q c H3 F3 M3 g3 (e2.trans e3) J3 (fun a ha => (hm3 a ha).trans (hm a ha)) ?_
    cases c with
    | false => exact .inl ⟨rfl, .inr ⟨hp, hc⟩⟩
    | true => exact .inr ⟨rfl, hp, hc⟩
theorem j_if (h : TJ o Pb tt σ Hk) (h1 : Pb true → EJ o r P1 ta σ Hk) (h2 : Pb false → EJ o r P1 tb σ Hk) : EJ o r P1 (tIf tt ta tb) σ Hk := fun K0 H0 M0 F0 H M g e J Q q => h K0 H0 M0 F0 H M g e J _ fun b H' F M' g2 e2 J2 hm hp => by
  have step : ∀ {te : TE}, EJ o r P1 te σ Hk → te σ H' Q := fun h => h K0 H0 M0 F H' M' g2 (e.trans e2) J2 Q fun v x H3 F3 M3 g3 e3 J3 hm3 hv hx => q v x H3 F3 M3 g3 (e2.trans e3) J3 (fun a ha => (hm3 a ha).trans (hm a ha)) hv hx
  cases b with
  | true => exact step (h1 hp)
  | false => exact step (h2 hp)
/-- an operator on two readings with draws -/
theorem j_op [Mono r] {rel : R2} {P2' : α → γ → Prop} (ha : EJ o r P1 ta σ Hk) (hb : ∀ x, P1 x → EJ o r2 (P2' x) tb σ Hk)
    (hop : ∀ F H v w x y (Q : VK), Ex F H → r F v x → P1 x → r2 F w y → P2' x y → (∀ u z H' F', Grow F H F' H' → s F' u z → P2 z → Q u H') → rel v w H Q) : EJ o s P2 (tOp rel ta tb) σ Hk := fun K0 H0 M0 F0 H M g e J Q q =>
  ha K0 H0 M0 F0 H M g e J _ fun v x H1 F1 M1 g1 e1 J1 hm1 hv hx => hb x hx K0 H0 M0 F1 H1 M1 g1 (e.trans e1) J1 _ fun w y H2 F2 M2 g2 e2 J2 hm2 hw hy =>
    hop F2 H2 v w x y Q g2.f (up e2 hv) hx hw hy fun u z H' F' gr hs hz => q u z H' F' M2 (g2.grow gr) ((e1.trans e2).trans gr.k) (J2.up gr.k) (fun a ha => (hm2 a ha).trans (hm1 a ha)) hs hz
theorem j_catW {Pa Pd : W → Prop} {n m : Nat} (ha : EJ o rW Pa ta σ Hk) (hb : EJ o rW Pd tb σ Hk) (h1 : ∀ x, Pa x → x.length ≤ n) (h2 : ∀ x, Pd x → x.length ≤ m) (hz : n + m ≤ 100000) :
    EJ o rW (fun z => ∃ x y, Pa x ∧ Pd y ∧ z = x ++ y) (tOp (fun x y H Q => ∃ i j, x = V.str i ∧ y = V.str j ∧ i.length + j.length ≤ sizeLine ∧ Q (.str (i ++ j)) H) ta tb) σ Hk :=
  j_op (r := rW) (r2 := rW) (P2' := fun _ y => Pd y) ha (fun _ _ => hb) fun F H v w x y Q e hv hx hw hy q => by
    cases hv; cases hw
    refine ⟨_, _, rfl, rfl, sz_of (by rw [S_len, S_len]; have := h1 x hx; have := h2 y hy; omega), q _ (x ++ y) H F (Grow.refl e) (by show V.str _ = V.str _; rw [S_app]) ⟨x, y, hx, hy, rfl⟩⟩
theorem ja_nil : EJA o r (fun l => l = []) tNil σ Hk := fun K0 H0 M0 F0 H M g e J Q q => q [] [] H F0 M g (Ex.refl _) J (fun _ _ => rfl) .nil rfl
theorem ja_cons [Mono r] {Pl : List α → Prop} (h : EJ o r P1 te σ Hk) (hr : EJA o r Pl tr σ Hk) : EJA o r (fun l => ∃ x l', l = x :: l' ∧ P1 x ∧ Pl l') (tCons te tr) σ Hk := fun K0 H0 M0 F0 H M g e J Q q =>
  h K0 H0 M0 F0 H M g e J _ fun v x H1 F1 M1 g1 e1 J1 hm1 hv hx => hr K0 H0 M0 F1 H1 M1 g1 (e.trans e1) J1 _ fun vs xs H2 F2 M2 g2 e2 J2 hm2 hvs hxs =>
    q _ _ H2 F2 M2 g2 (e1.trans e2) J2 (fun a ha => (hm2 a ha).trans (hm1 a ha)) (.cons (up e2 hv) hvs) ⟨x, xs, rfl, hx, hxs⟩
theorem ja_imp {Pl Pl' : List α → Prop} (h : EJA o r Pl tr σ Hk) (hp : ∀ x, Pl x → Pl' x) : EJA o r Pl' tr σ Hk := fun K0 H0 M0 F0 H M g e' J Q q => h K0 H0 M0 F0 H M g e' J Q fun v x H' F M' g2 e2 J2 hm hv hx => q v x H' F M' g2 e2 J2 hm hv (hp x hx)
/-- a written list -/
theorem j_lst [Mono r] {Pl : List α → Prop} (h : EJA o r Pl tr σ Hk) (hl : ∀ l, Pl l → l.length ≤ 1000) : EJ o (rLst r) Pl (tLst tr) σ Hk := fun K0 H0 M0 F0 H M g e J Q q =>
  h K0 H0 M0 F0 H M g e J _ fun vs xs H1 F1 M1 g1 e1 J1 hm1 hvs hxs => ⟨sz_of (by rw [p_len hvs]; have := hl xs hxs; omega), fun p hp => by
    have g2 := g1.newk (u := .lst vs) hp
    have e2 : Ex F1 (upd F1 p (.lst vs)) := Ex.new (g1.f.free hp)
    exact q (.ref p) xs _ _ M1 g2 (e1.trans e2) (J1.up e2) hm1 ⟨p, vs, rfl, upd_same, p_up e2 hvs⟩ hxs⟩
theorem j_cat [Mono r] {Pl Pm : List α → Prop} {n m : Nat} (ha : EJ o (rLst r) Pl ta σ Hk) (hb : EJ o (rLst r) Pm tb σ Hk) (h1 : ∀ l, Pl l → l.length ≤ n) (h2 : ∀ l, Pm l → l.length ≤ m) (hz : n + m ≤ 100000) :
    EJ o (rLst r) (fun z => ∃ x y, Pl x ∧ Pm y ∧ z = x ++ y) (tOp rCat ta tb) σ Hk :=
  j_op (r := rLst r) (r2 := rLst r) (P2' := fun _ y => Pm y) ha (fun _ _ => hb) fun F H v w x y Q e hv hx hw hy q => by
    obtain ⟨b, vs, rfl, hb, hp⟩ := hv
    obtain ⟨c, ws, rfl, hc, hq⟩ := hw
    refine ⟨b, c, vs, ws, rfl, rfl, e _ _ hb, e _ _ hc, sz_of (by rw [p_len hp, p_len hq]; have := h1 x hx; have := h2 y hy; omega), fun p hp' => ?_⟩
    have g := (Grow.refl e).new (o := .lst (vs ++ ws)) hp'
    exact q (.ref p) (x ++ y) _ _ g ⟨p, _, rfl, upd_same, p_up (r := r) (Ex.new (e.free hp')) (p_app hp hq)⟩ ⟨x, y, hx, hy, rfl⟩
/-! ### functions of the jar -/
variable {pre : α → Prop} {post : α → β → Prop} {i : Nat}
theorem j_c0 {post : β → Prop} (hi : σ[i]? = some (some (.ref o))) : EJ o s post (tCall (spJ0 s post) [] Ew (tCons (tVar i) tNil)) σ Hk := fun K0 H0 M0 F0 H M g e J Q q =>
  ⟨_, hi, F0, M, o, rfl, g.g.f, g.m, J, fun u y H' F M' gg J' hm hs hp => q u y H' F M' (g.trans gg) gg.k J' hm hs hp⟩
theorem j_c1 [Mono r] (hi : σ[i]? = some (some (.ref o))) (h : EJ o r P1 te σ Hk) (hp : ∀ x, P1 x → pre x) : EJ o s (fun y => ∃ x, P1 x ∧ post x y) (tCall (spJ r pre s post) [] Ew (tCons (tVar i) (tCons te tNil))) σ Hk := fun K0 H0 M0 F0 H M g e J Q q =>
  ⟨_, hi, h K0 H0 M0 F0 H M g e J _ fun v x H1 F1 M1 g1 e1 J1 hm1 hv hx => ⟨F1, M1, o, v, x, rfl, g1.g.f, g1.m, J1, hv, hp x hx, fun u y H' F M' gg J' hm hs hpo => q u y H' F M' (g1.trans gg) (e1.trans gg.k) J' (fun a ha => (hm a ha).trans (hm1 a ha)) hs ⟨x, hx, hpo⟩⟩⟩
theorem j_c2 [Mono r] {r3 : Rp γ} {pre : α → γ → Prop} {post : α → γ → β → Prop} {P3 : γ → Prop} (hi : σ[i]? = some (some (.ref o))) (h : EJ o r P1 ta σ Hk) (h2 : EJ o r3 P3 tb σ Hk) (hp : ∀ x y, P1 x → P3 y → pre x y) :
    EJ o s (fun z => ∃ x y, P1 x ∧ P3 y ∧ post x y z) (tCall (spJ2 r r3 pre s post) [] Ew (tCons (tVar i) (tCons ta (tCons tb tNil)))) σ Hk := fun K0 H0 M0 F0 H M g e J Q q =>
  ⟨_, hi, h K0 H0 M0 F0 H M g e J _ fun v x H1 F1 M1 g1 e1 J1 hm1 hv hx => h2 K0 H0 M0 F1 H1 M1 g1 (e.trans e1) J1 _ fun v2 x2 H2 F2 M2 g2 e2 J2 hm2 hv2 hx2 =>
    ⟨F2, M2, o, v, x, v2, x2, rfl, g2.g.f, g2.m, J2, up e2 hv, hv2, hp x x2 hx hx2, fun u y H' F M' gg J' hm hs hpo => q u y H' F M' (g2.trans gg) ((e1.trans e2).trans gg.k) J' (fun a ha => ((hm a ha).trans (hm2 a ha)).trans (hm1 a ha)) hs ⟨x, x2, hx, hx2, hpo⟩⟩⟩
/-- a draw below n -/
theorem j_d {n : Int} (hi : σ[i]? = some (some (.ref o))) (h : E rInt te σ Hk n) (h0 : 0 < n) (h1 : n < 1000000) : EJ o rInt (fun d => 0 ≤ d ∧ d < n) (tCall (spJ rInt dPre rInt dPost) [] Ew (tCons (tVar i) (tCons te tNil))) σ Hk :=
  (j_c1 (P1 := fun x => x = n) hi (EJ.of h rfl) (fun x hx => by subst hx; exact ⟨h0, h1⟩)).imp fun d ⟨x, hx, hd⟩ => by subst hx; exact hd
end
/-- some of a told list -/
def rMenu : Rp (List V) := fun H v us => ∃ p, v = .ref p ∧ H p = some (.lst us)
instance : Mono rMenu := ⟨fun e ⟨p, h1, h2⟩ => ⟨p, h1, e _ _ h2⟩⟩
def mPre (us : List V) : Prop := 0 < us.length ∧ us.length < 1000
theorem ok__law_pick (T : Txt w K mg) : FnOk P w K mg base CX0 2 T.d__law_pick.a T.d__law_pick.fd ["jar", "menu"] (spJ rMenu mPre rV fun us u => u ∈ us) := by
  refine T.d__law_pick.F.ok sc__law_pick (fun vs H Q Ew h => ?_) (fun cdv A outer s H vs Q Ew hr h => ?_)
  · obtain ⟨_, _, _, _, _, rfl, _⟩ := h; rfl
  · obtain ⟨Hk, M, o, v, us, rfl, h1, h2, J, hv, ⟨l0, l1⟩, q⟩ := h
    refine ⟨_, (pss_one (ps_ret (pe_ix (ix_listK (K := K) rfl) (pv 1) (pe_call (ok__law_draw T) (hr.mono (by decide)) (by rfl) T.g__law_draw T.d__law_draw.F.kp T.d__law_draw.b .nil pass0 (pa_cons (pv 0) (pa_cons (pe_callB (c_lenK (K := K) rfl) (by rfl) T.n_len (by decide +kernel) (pa_cons (pv 1) pa_nil)) pa_nil))) (fun _ _ => rfl)))), ?_⟩
    have g0 := GM.refl h1 h2
    obtain ⟨p, rfl, hp⟩ := hv
    refine ⟨_, rfl, ?_⟩
    refine j_d (Hk := Hk) (n := (us.length : Int)) rfl (fun H e Q q => ⟨_, rfl, p, us, rfl, .inl (sq_of (e _ _ hp)), q _ H Hk (Grow.refl e) rfl⟩) (by omega) (by omega) _ _ _ _ _ _ g0 (Ex.refl _) J _ fun v d H' F M' g e J' hm hv ⟨d0, d1⟩ => ?_
    cases hv
    have hd : d.toNat < us.length := by omega
    refine ⟨p, us, d, us[d.toNat], rfl, rfl, sq_of (g.f _ _ (e _ _ hp)), ?_, q _ _ H' F M' g J' hm rfl (List.getElem_mem hd)⟩
    have := atI_nat (xs := us) (j := d.toNat) (v := us[d.toNat]) (by simp [hd])
    rwa [Int.toNat_of_nonneg d0] at this
theorem p_mem {α β : Type} {F : α → β → Prop} : ∀ {xs : List α} {ys : List β} {x : α}, Paired F xs ys → x ∈ xs → ∃ y, y ∈ ys ∧ F x y
  | _, _, _, .cons h t, hm => by
    rcases List.mem_cons.mp hm with rfl | hm
    · exact ⟨_, List.mem_cons_self, h⟩
    · obtain ⟨y, h1, h2⟩ := p_mem t hm
      exact ⟨y, List.mem_cons_of_mem _ h1, h2⟩
/-- one of a told list -/
theorem j_pick {α : Type} {o : Addr} {r : Rp α} [Mono r] {σ : L2.St} {Hk : Hp} {te : TE} {Ew : XK} {Pl : List α → Prop} {i : Nat} (hi : σ[i]? = some (some (.ref o))) (h : EJ o (rLst r) Pl te σ Hk) (hl : ∀ l, Pl l → 0 < l.length ∧ l.length < 1000) :
    EJ o r (fun x => ∃ l, Pl l ∧ x ∈ l) (tCall (spJ rMenu mPre rV fun us u => u ∈ us) [] Ew (tCons (tVar i) (tCons te tNil))) σ Hk := fun K0 H0 M0 F0 H M g e J Q q =>
  ⟨_, hi, h K0 H0 M0 F0 H M g e J _ fun v l H1 F1 M1 g1 e1 J1 hm1 ⟨p, us, hv, hp, hps⟩ hx => by
    subst hv
    refine ⟨F1, M1, o, .ref p, us, rfl, g1.g.f, g1.m, J1, ⟨p, rfl, hp⟩, by rw [mPre, p_len hps]; exact hl l hx, fun u y H' F M' gg J' hm hs hpo => ?_⟩
    cases hs
    obtain ⟨x, hx1, hx2⟩ := p_mem hps hpo
    exact q u x H' F M' (g1.trans gg) (e1.trans gg.k) J' (fun a ha => (hm a ha).trans (hm1 a ha)) (up gg.k hx2) ⟨l, hx, hx1⟩⟩
/-- a written list of texts -/
theorem j_w {o : Addr} {σ : L2.St} {Hk : Hp} {z : Str} {a : W} (h : S a = z) : EJ o rW (fun x => x = a) (tC (.str z)) σ Hk := EJ.of (e_w h) rfl
theorem ok__law_blank (T : Txt w K mg) : FnOk P w K mg base CX0 3 T.d__law_blank.a T.d__law_blank.fd ["jar"] (spJ0 rW Bl) := by
  refine T.d__law_blank.F.ok sc__law_blank (fun vs H Q Ew h => ?_) (fun cdv A outer s H vs Q Ew hr h => ?_)
  · obtain ⟨_, _, _, rfl, _⟩ := h; rfl
  · obtain ⟨Hk, M, o, rfl, h1, h2, J, q⟩ := h
    refine ⟨_, (pss_one (ps_ret (pe_call (ok__law_pick T) (hr.mono (by decide)) (by rfl) T.g__law_pick T.d__law_pick.F.kp T.d__law_pick.b .nil pass0 (pa_cons (pv 0) (pa_cons (pe_lst (pa_cons pe_str (pa_cons pe_str (pa_cons pe_str (pa_cons pe_str pa_nil))))) pa_nil))))), ?_⟩
    refine (j_pick (o := o) (r := rW) rfl (j_lst (ja_cons (j_w (a := []) rfl) (ja_cons (j_w (a := []) rfl) (ja_cons (j_w (a := [32]) rfl) (ja_cons (j_w (a := [32, 32]) rfl) ja_nil)))) ?_) ?_) _ _ _ _ _ _ (GM.refl h1 h2) (Ex.refl _) J Q fun v x H' F M' g e J' hm hv hp => q v x H' F M' g J' hm hv ?_
    · rintro l ⟨_, _, rfl, _, _, _, rfl, _, _, _, rfl, _, _, _, rfl, _, rfl⟩; show 4 ≤ 1000; decide
    · rintro l ⟨_, _, rfl, _, _, _, rfl, _, _, _, rfl, _, _, _, rfl, _, rfl⟩; show 0 < 4 ∧ 4 < 1000; decide
    · obtain ⟨l, ⟨_, _, rfl, rfl, _, _, rfl, rfl, _, _, rfl, rfl, _, _, rfl, rfl, rfl⟩, hx⟩ := hp
      simp only [List.mem_cons, List.mem_nil_iff, or_false] at hx
      rcases hx with rfl | rfl | rfl | rfl
      · exact bl_nil
      · exact bl_nil
      · exact bl_one
      · exact ⟨fun c hc => by simpa using hc, by decide⟩
end
end F1

set_option Elab.async false
set_option linter.all false
set_option autoImplicit false
set_option maxRecDepth 100000
set_option maxHeartbeats 4000000
/-! # Drawn formulas -/
namespace F1
open PySem L2 Y
open Pl hiding Sp Ss PA PB RA RW RP RS
open TL (numL numL_lt numL_step tl_num numL_len)
def poolW : List W := [[120], [121], [122], [97, 55], [98, 98], [113], [119, 48, 119], [109], [97, 98, 99, 100, 101, 102, 103, 104], [107, 57], [117], [118, 50], [116], [101], [104, 49], [114], [122, 122, 57], [99], [112], [110, 49], [111], [106], [108, 111]]
def nmL (l : List W) : Prop := l.length = 23 ∧ ∀ x ∈ l, isName x = true
theorem pool_ok : ∀ x ∈ poolW, isName x = true := by decide +kernel
theorem figs_num (n : Nat) : figs (numL n) = true := by
  have key : ∀ n, (1 ≤ n → ∃ c r, numL n = c :: r ∧ c ≠ 48) ∧ (numL n).all dig = true := by
    intro n
    induction n using Nat.strongRecOn with
    | _ n ih =>
      by_cases h : n < 10
      · rw [numL_lt h]
        refine ⟨fun h1 => ⟨48 + n, [], rfl, by omega⟩, ?_⟩
        simp [dig]; omega
      · rw [numL_step (by omega)]
        obtain ⟨i1, i2⟩ := ih (n / 10) (by omega)
        obtain ⟨c, r, e, hc⟩ := i1 (by omega)
        refine ⟨fun _ => ⟨c, r ++ [48 + n % 10], by rw [e]; rfl, hc⟩, ?_⟩
        rw [List.all_append, i2]
        simp [dig]; omega
  obtain ⟨k1, k2⟩ := key n
  rw [figs_eq, k2]
  cases n with
  | zero => decide +kernel
  | succ n =>
    obtain ⟨c, r, e, hc⟩ := k1 (by omega)
    rw [e]
    simp [hc]
section
variable {P : Program} {w : World} {K : PySem.W.Frag} {mg : Str → Option Value} {base : Heap}
theorem j_str {o : Addr} {σ : L2.St} {Hk : Hp} {te : TE} {P1 : Int → Prop} (h : EJ o rInt P1 te σ Hk) (hp : ∀ d, P1 d → 0 ≤ d ∧ d < 1000000000000000) :
    EJ o rW (fun x => ∃ n : Nat, n < 1000000000000000 ∧ P1 n ∧ x = numL n) (tCB (fun xs H Q => ∃ i, xs = [V.int i] ∧ i.natAbs.log2 < 1920 ∧ Q (.str (toString i)) H) (tCons te tNil)) σ Hk := fun K0 H0 M0 F0 H M g e J Q q =>
  h K0 H0 M0 F0 H M g e J _ fun v d H' F M' g2 e2 J2 hm hv hd => by
    cases hv
    obtain ⟨d0, d1⟩ := hp d hd
    obtain ⟨n, rfl⟩ : ∃ n : Nat, d = (n : Int) := ⟨d.toNat, by omega⟩
    refine ⟨_, rfl, ?_, q _ (numL n) H' F M' g2 e2 J2 hm ?_ ⟨n, by omega, hd, rfl⟩⟩
    · show Nat.log2 n < 1920
      by_cases z : n = 0
      · subst z; decide
      · rw [Nat.log2_lt z]
        exact Nat.lt_of_lt_of_le (show n < 2 ^ 64 by omega) (Nat.pow_le_pow_right (by decide) (by decide))
    · show V.str _ = V.str (S (numL n))
      congr 1
      unfold S
      rw [← tl_num n]
theorem num_leaf {n : Nat} (h : n < 1000000000000000) : Leaf (.num (numL n)) := leaf_num (figs_num n) (numL_len (by decide) (by omega))
theorem rW_wd {F : Hp} {v : V} {s : Stp} (h : v = .str (S s.w)) : rWd F v s := h
theorem ok__law_labels (T : Txt w K mg) : FnOk P w K mg base CX0 2 T.d__law_labels.a T.d__law_labels.fd ["jar"] (spJ0 (rLst rW) nmL) := by
  refine T.d__law_labels.F.ok sc__law_labels (fun vs H Q Ew h => ?_) (fun cdv A outer s H vs Q Ew hr h => ?_)
  · obtain ⟨_, _, _, rfl, _⟩ := h; rfl
  · obtain ⟨Hk, M, o, rfl, h1, h2, J, q⟩ := h
    refine ⟨_, (pss_cons (ps_set (i := 1) sc__law_labels.nd rfl (Or.inr rfl) (pe_split pe_str pe_str))
      (pss_cons (ps_set (i := 2) sc__law_labels.nd rfl (Or.inr rfl) (pe_call (ok__law_draw T) (hr.mono (by decide)) (by rfl) T.g__law_draw T.d__law_draw.F.kp T.d__law_draw.b .nil pass0 (pa_cons (pv 0) (pa_cons pe_int pa_nil))))
      (pss_cons (ps_set (i := 3) sc__law_labels.nd rfl (Or.inr rfl) (pe_op op_add pe_int (pe_call (ok__law_draw T) (hr.mono (by decide)) (by rfl) T.g__law_draw T.d__law_draw.F.kp T.d__law_draw.b .nil pass0 (pa_cons (pv 0) (pa_cons pe_int pa_nil)))))
      (pss_one (ps_ret (pe_lc (own := [("k", 4)]) (g := gName 4) rfl sc__law_labels.nd (pi_range1 (by rfl) T.n_range (pa_cons pe_int pa_nil)) (blkOk_by (N := ["jar", "pool", "start", "jump", "k"]) (sc := defScope s__law_labels) (by decide +kernel)) (fun _ _ _ _ _ => (pg_name (i := 4) sc__law_labels.nd rfl (Or.inl rfl) (hf := Or.inr rfl))) (fun _ _ _ _ _ => pts_nil) (fun _ _ _ _ _ => (pe_ix (ix_listK (K := K) rfl) (pv 1) (pe_op op_modN (pe_callTy c_toInt (by rfl) T.n_int (by decide +kernel) (pa_cons (pe_op op_add (pv 2) (pe_op op_mulW (pv 3) (pv 4))) pa_nil)) pe_int) (fun _ _ => rfl))))))))), ?_⟩
    refine g_set (r := rLst rW) (x := poolW) (e_splitS (by decide +kernel) (by decide +kernel)).e (GM.refl h1 h2) fun v1 H1 F1 g1 e1 hv1 => ?_
    have J1 := J.up e1
    refine j_d (Hk := F1) (n := 23) rfl e_int (by decide) (by decide) _ _ _ _ _ _ g1 (Ex.refl _) J1 _ fun v2 d2 H2 F2 M2 g2 e2 J2 hm2 hv2 ⟨d0, d1⟩ => ?_
    cases hv2
    refine j_op (o := o) (r := rInt) (r2 := rInt) (s := rInt) (P1 := fun x => x = 1) (P2' := fun _ d => 0 ≤ d ∧ d < 22) (P2 := fun x => 1 ≤ x ∧ x < 24) (Hk := F2) (EJ.of e_int rfl) (fun _ _ => j_d (n := 22) rfl e_int (by decide) (by decide)) (fun F H v w x y Q e hv hx hw hy q => ?_) _ _ _ _ _ _ g2 (Ex.refl _) J2 _ fun v3 d3 H3 F3 M3 g3 e3 J3 hm3 hv3 ⟨d4, d5⟩ => ?_
    · cases hv; cases hw; subst hx
      exact ⟨_, _, rfl, rfl, q _ _ H F (Grow.refl e) rfl (by show 1 ≤ (1 : Int) + y ∧ (1 : Int) + y < 24; omega)⟩
    cases hv3
    dsimp only [List.set, L2.start]
    have hv1 := up (r := rLst rW) (e2.trans e3) hv1
    have en : EN rW (tLc (iRng1 (tCons (tC (.int 23)) tNil)) (gName 4) tYes (tOp (rIxL K) (tVar 1) (tOp (rI (fun _ j => j ≠ 0) fun i j => .int (i.fmod j)) (tCB rToInt (tCons (tOp (rI0 fun i j => .int (i + j)) (tVar 2) (tOp (rI CMulW fun i j => .int (i * j)) (tVar 3) (tVar 4))) tNil)) (tC (.int 23)))) [4]) [some (.ref o), some v1, some (.int d2), some (.int d3), none] F3 ((List.range (23 : Int).toNat).map fun (k : Nat) => poolW.getD ((d2 + d3 * (k : Int)).fmod 23).toNat []) := by
      refine en_lcR e_int (by decide) (by decide) (fun _ => rfl) fun k F hk e => ?_
      have hk : k < 23 := by omega
      have hb := fm (d2 + d3 * (k : Int)) (b := 23) (by decide)
      have hl : ((d2 + d3 * (k : Int)).fmod 23).toNat < poolW.length := by show _ < 23; omega
      refine e_at (e_var (up (r := rLst rW) e hv1) rfl) (e_i (C := fun _ j => j ≠ 0) (f := fun i j => i.fmod j) (e_toInt (e_i0 (f := fun i j => i + j) (e_var (x := d2) rfl rfl) (e_i (C := CMulW) (f := fun i j => i * j) (e_var (x := d3) rfl rfl) (e_var (x := (k : Int)) rfl rfl) (wide_mul (a := 8) (b := 8) (by omega) (by omega) (by decide) (by decide) (by decide))))) e_int (by decide)) hb.1 ?_
      rw [List.getD_eq_getElem?_getD, List.getElem?_eq_getElem hl]; rfl
    refine (en.e : E (rLst rW) _ _ _ _) H3 g3.f _ fun v4 H4 F4 gr hv4 => ?_
    refine q v4 _ H4 F4 M3 (g3.grow gr) (J3.up gr.k) (fun a ha => (hm3 a ha).trans (hm2 a ha)) hv4 ⟨by simp, fun x hx => ?_⟩
    obtain ⟨k, hk, rfl⟩ := List.mem_map.mp hx
    have hb := fm (d2 + d3 * (k : Int)) (b := 23) (by decide)
    have hl : ((d2 + d3 * (k : Int)).fmod 23).toNat < poolW.length := by show _ < 23; omega
    rw [List.getD_eq_getElem?_getD, List.getElem?_eq_getElem hl]
    exact pool_ok _ (List.getElem_mem hl)
theorem ok__law_leaf (T : Txt w K mg) : FnOk P w K mg base CX0 2 T.d__law_leaf.a T.d__law_leaf.fd ["jar", "labels"] (spJ (rLst rW) nmL rF fun _ t => Leaf t) := by
  refine T.d__law_leaf.F.ok sc__law_leaf (fun vs H Q Ew h => ?_) (fun cdv A outer s H vs Q Ew hr h => ?_)
  · obtain ⟨_, _, _, _, _, rfl, _⟩ := h; rfl
  · obtain ⟨Hk, M, o, v, l, rfl, h1, h2, J, hv, ⟨hl, hn⟩, q⟩ := h
    refine ⟨_, (pss_cons (ps_set (i := 2) sc__law_leaf.nd rfl (Or.inl rfl) (pe_call (ok__law_draw T) (hr.mono (by decide)) (by rfl) T.g__law_draw T.d__law_draw.F.kp T.d__law_draw.b .nil pass0 (pa_cons (pv 0) (pa_cons pe_int pa_nil))))
      (pss_cons (ps_if (pt_cmpR op_gt (pv 2) pe_int (nomark _)) (pss_one (ps_ret (pe_lst (pa_cons (pe_ix (ix_listK (K := K) rfl) (pv 1) (pe_call (ok__law_draw T) (hr.mono (by decide)) (by rfl) T.g__law_draw T.d__law_draw.F.kp T.d__law_draw.b .nil pass0 (pa_cons (pv 0) (pa_cons pe_int pa_nil))) (fun _ _ => rfl)) pa_nil)))) pss_nil)
      (pss_one (ps_ret (pe_ifExp (pt_cmpR op_eq (pv 2) pe_int (nomark _)) (pe_lst (pa_cons (pe_callTy call_str_int (by rfl) T.n_str (by decide +kernel) (pa_cons (pe_call (ok__law_draw T) (hr.mono (by decide)) (by rfl) T.g__law_draw T.d__law_draw.F.kp T.d__law_draw.b .nil pass0 (pa_cons (pv 0) (pa_cons pe_int pa_nil))) pa_nil)) pa_nil)) (pe_lst (pa_cons (pe_callTy call_str_int (by rfl) T.n_str (by decide +kernel) (pa_cons (pe_op op_add (pe_op op_mulW (pe_call (ok__law_draw T) (hr.mono (by decide)) (by rfl) T.g__law_draw T.d__law_draw.F.kp T.d__law_draw.b .nil pass0 (pa_cons (pv 0) (pa_cons pe_int pa_nil))) (pe_op op_pow pe_int pe_int)) (pe_call (ok__law_draw T) (hr.mono (by decide)) (by rfl) T.g__law_draw T.d__law_draw.F.kp T.d__law_draw.b .nil pass0 (pa_cons (pv 0) (pa_cons pe_int pa_nil)))) pa_nil)) pa_nil))))))), ?_⟩
    refine j_d (Hk := Hk) (n := 5) rfl e_int (by decide) (by decide) _ _ _ _ _ _ (GM.refl h1 h2) (Ex.refl _) J _ fun v1 d1 H1 F1 M1 g1 e1 J1 hm1 hv1 ⟨a0, a1⟩ => ?_
    cases hv1
    dsimp only [List.set, L2.start]
    have fin : ∀ {te : TE} {H2 F2 M2}, GM Hk H M F2 H2 M2 → Ex Hk F2 → Jar F2 M2 o → (∀ a, a ≠ o → M2 a = M a) → EJ o (rLst rWd) (fun x => ∃ t, x = pst t ∧ Leaf t) te [some (.ref o), some v, some (.int d1)] F2 → te [some (.ref o), some v, some (.int d1)] H2 Q := fun g e J hm h =>
      h _ _ _ _ _ _ g (Ex.refl _) J Q fun v3 x H3 F3 M3 g3 e3 J3 hm3 hv3 ⟨t, hx, ht⟩ => q v3 t H3 F3 M3 g3 J3 (fun a ha => (hm3 a ha).trans (hm a ha)) (by show rLst rWd F3 v3 (pst t); rw [← hx]; exact hv3) ht
    refine g_if (b := decide (d1 > 1)) (t_test (e_b0 (p := fun i j => decide (i > j)) (e_var (x := d1) rfl rfl) e_int)) g1 (fun c H2 g2 => ?_) (fun c H2 g2 => ?_)
    · refine fin g2 e1 J1 hm1 ((j_lst (ja_cons (r := rWd) (P1 := fun s => ∃ x, isName x = true ∧ s = .name x) ?_ ja_nil) ?_).imp ?_)
      · refine j_op (r := rLst rW) (r2 := rInt) (P1 := fun x => x = l) (P2' := fun _ d => 0 ≤ d ∧ d < 5) (EJ.of (e_var (up (r := rLst rW) e1 hv) rfl) rfl) (fun _ _ => j_d (n := 5) rfl e_int (by decide) (by decide)) (fun F H v' w x y Q' e hv' hx hw hy q' => ?_)
        cases hw
        rw [hx] at hv'
        obtain ⟨p, vs, rfl, hp, hps⟩ := hv'
        have hy2 : y.toNat < l.length := by omega
        obtain ⟨u, z1, z2⟩ := p_at (i := y.toNat) (y := l[y.toNat]) hps (by simp [hy2])
        refine ⟨p, vs, y, u, rfl, rfl, sq_of (e _ _ hp), ?_, q' u (.name l[y.toNat]) H F (Grow.refl e) z2 ⟨_, hn _ (List.getElem_mem hy2), rfl⟩⟩
        have := atI_nat z1
        rwa [Int.toNat_of_nonneg hy.1] at this
      · rintro _ ⟨_, _, rfl, _, rfl⟩; show 1 ≤ 1000; decide
      · rintro _ ⟨_, _, rfl, ⟨x, hx, rfl⟩, rfl⟩; exact ⟨.name x, rfl, leaf_name hx⟩
    · refine fin g2 e1 J1 hm1 (j_if (TJ.of (b := decide (d1 = 0)) (t_test (e_eqI (e_var (x := d1) rfl rfl) e_int))) (fun _ => ?_) (fun _ => ?_))
      · refine (j_lst (ja_cons (r := rWd) (P1 := fun s => ∃ n : Nat, n < 1000000000000000 ∧ s = .num (numL n)) ((j_str (j_d (n := 6) rfl e_int (by decide) (by decide)) (fun d hd => by omega)).map ?_) ja_nil) ?_).imp ?_
        · rintro F v x hv ⟨n, h1, _, rfl⟩; exact ⟨.num (numL n), hv, n, h1, rfl⟩
        · rintro _ ⟨_, _, rfl, _, rfl⟩; show 1 ≤ 1000; decide
        · rintro _ ⟨_, _, rfl, ⟨x, hx, rfl⟩, rfl⟩; exact ⟨.num (numL x), rfl, num_leaf hx⟩
      · refine (j_lst (ja_cons (r := rWd) (P1 := fun s => ∃ n : Nat, n < 1000000000000000 ∧ s = .num (numL n)) ((j_str (P1 := fun d => 0 ≤ d ∧ d < 1000000000000000) ?_ (fun d hd => hd)).map ?_) ja_nil) ?_).imp ?_
        · refine j_op (r := rInt) (r2 := rInt) (P1 := fun d => ∃ k, 0 ≤ k ∧ k < 1000 ∧ d = k * 1000000000000) (P2' := fun _ d => 0 ≤ d ∧ d < 1000) ?_ (fun _ _ => j_d (n := 1000) rfl e_int (by decide) (by decide)) (fun F H v w x y Q e hv hx hw hy q => ?_)
          · refine j_op (r := rInt) (r2 := rInt) (P1 := fun d => 0 ≤ d ∧ d < 1000) (P2' := fun _ d => d = 1000000000000) (j_d (n := 1000) rfl e_int (by decide) (by decide)) (fun _ _ => EJ.of (x := 1000000000000) ((e_i (C := CPow) (f := fun i j => i ^ j.toNat) (i := 10) (j := 12) e_int e_int ⟨by decide, by decide, by decide⟩).as (by decide)) rfl) (fun F H v w x y Q e hv hx hw hy q => ?_)
            cases hv; cases hw; subst hy
            exact ⟨_, _, rfl, rfl, wide_mul (a := 64) (b := 64) (by omega) (by decide) (by decide) (by decide) (by decide), q _ _ H F (Grow.refl e) rfl ⟨x, hx.1, hx.2, rfl⟩⟩
          · cases hv; cases hw
            obtain ⟨k, k0, k1, rfl⟩ := hx
            exact ⟨_, _, rfl, rfl, q _ _ H F (Grow.refl e) rfl (by omega)⟩
        · rintro F v x hv ⟨n, h1, _, rfl⟩; exact ⟨.num (numL n), hv, n, h1, rfl⟩
        · rintro _ ⟨_, _, rfl, _, rfl⟩; show 1 ≤ 1000; decide
        · rintro _ ⟨_, _, rfl, ⟨x, hx, rfl⟩, rfl⟩; exact ⟨.num (numL x), rfl, num_leaf hx⟩
end
end F1

set_option Elab.async false
set_option linter.all false
set_option autoImplicit false
set_option maxRecDepth 100000
set_option maxHeartbeats 4000000
/-! # Grown formulas -/
namespace F1
open PySem L2 Y
open Pl hiding Sp Ss PA PB RA RW RP RS
open TL (numL numL_lt numL_step tl_num numL_len)
def opN (d : Int) : Op := if d = 0 then .add else if d = 1 then .sub else if d = 2 then .mul else .div
section
variable {P : Program} {w : World} {K : PySem.W.Frag} {mg : Str → Option Value} {base : Heap}
section
variable {α : Type} {o : Addr} {r : Rp α} {σ : L2.St} {Hk F0 H M K0 H0 M0 : Hp} {ta tb te : TE} {tt : TT} {P1 : Int → Prop} {Pb : Bool → Prop} {D : Ends} {tw tz : TS}
theorem j_eqI {n : Int} (h : EJ o rInt P1 ta σ Hk) : EJ o rBl (fun _ => True) (tOp rEq ta (tC (.int n))) σ Hk :=
  j_op (r := rInt) (r2 := rInt) (P2' := fun _ _ => True) h (fun _ _ => EJ.of e_int trivial) fun F H v w x y Q e hv hx hw hy q => by
    cases hv; cases hw
    exact ⟨rfl, q _ _ H F (Grow.refl e) rfl trivial⟩
theorem g_ifJ (h : TJ o Pb tt σ Hk) (g : GM K0 H0 M0 F0 H M) (e : Ex Hk F0) (J : Jar F0 M o) (k : ∀ b H' F M', GM K0 H0 M0 F H' M' → Ex F0 F → Jar F M' o → (∀ a, a ≠ o → M' a = M a) → Pb b → if b = true then tw D σ H' else tz D σ H') : tIfS tt tw tz D σ H :=
  h K0 H0 M0 F0 H M g e J _ fun b H' F M' g2 e2 J2 hm hp => k b H' F M' g2 e2 J2 hm hp
theorem ja_ex {Pl : List α → Prop} {P3 : α → Prop} {tr : TA} [Mono r] {x : α} (h : E r te σ Hk x) (hp : P3 x) (hr : EJA o r (fun l => ∀ x ∈ l, P3 x) tr σ Hk) : EJA o r (fun l => ∀ x ∈ l, P3 x) (tCons te tr) σ Hk :=
  ja_imp (ja_cons (EJ.of (P1 := fun y => y = x) h rfl) hr) fun l ⟨y, l', e1, e2, e3⟩ => by
    subst e1; subst e2
    intro z hz
    rcases List.mem_cons.mp hz with rfl | hz
    · exact hp
    · exact e3 z hz
/-- a menu of steps that are all of a kind -/
theorem ja_all {P3 : α → Prop} {n : Nat} {tr : TA} [Mono r] (h : EJ o r P3 te σ Hk) (hr : EJA o r (fun l => l.length = n ∧ ∀ x ∈ l, P3 x) tr σ Hk) : EJA o r (fun l => l.length = n + 1 ∧ ∀ x ∈ l, P3 x) (tCons te tr) σ Hk :=
  ja_imp (ja_cons h hr) fun l ⟨y, l', e1, e2, e3, e4⟩ => by
    subst e1
    refine ⟨by rw [List.length_cons, e3], fun z hz => ?_⟩
    rcases List.mem_cons.mp hz with rfl | hz
    · exact e2
    · exact e4 z hz
theorem ja_all0 {P3 : α → Prop} : EJA o r (fun l => l.length = 0 ∧ ∀ x ∈ l, P3 x) tNil σ Hk := ja_imp ja_nil fun l e => by subst e; exact ⟨rfl, fun _ z => nomatch z⟩
end
theorem j_stp {o : Addr} {σ : L2.St} {Hk : Hp} {z : Str} (s : Stp) (h : S s.w = z) (hu : Un s) : EJ o rWd Un (tC (.str z)) σ Hk := EJ.of (x := s) (e_c (by show V.str z = V.str (S s.w); rw [h])) hu
theorem dig_w {d : Nat} (h : d ≤ 9) : [94] ++ numL d = Stp.w (.pow d) := by rw [numL_lt (by omega)]; rfl
theorem j_op4 {o : Addr} {σ : L2.St} {Hk : Hp} {d : Int} {i : Nat} (hi : σ[i]? = some (some (.int d))) : EJ o rWd (fun s => s = .op (opN (d.fmod 4))) (tOp rIxS (tC (.str "+-*/")) (tOp (rI (fun _ j => j ≠ 0) fun i j => .int (i.fmod j)) (tCB rToInt (tCons (tVar i) tNil)) (tC (.int 4)))) σ Hk := by
  have hb := fm d (b := 4) (by decide)
  refine EJ.of (x := .op (opN (d.fmod 4))) (fun H e Q q => ?_) rfl
  have hx : d.fmod 4 = 0 ∨ d.fmod 4 = 1 ∨ d.fmod 4 = 2 ∨ d.fmod 4 = 3 := by omega
  have key : ([43, 45, 42, 47] : W)[(d.fmod 4).toNat]? = some (opN (d.fmod 4)).c := by
    rcases hx with z | z | z | z <;> rw [z] <;> rfl
  exact (e_atW (a := [43, 45, 42, 47]) (k := d.fmod 4) (c := (opN (d.fmod 4)).c) (e_w (by decide +kernel)) (e_i (C := fun _ j => j ≠ 0) (f := fun i j => i.fmod j) (e_toInt (e_var (x := d) rfl hi)) e_int (by decide)) hb.1 key (by decide)) H e Q q
theorem ok__law_any (T : Txt w K mg) : FnOk P w K mg base CX0 3 T.d__law_any.a T.d__law_any.fd ["jar", "labels", "steps"] (spJ2 (rLst rW) rInt (fun l n => nmL l ∧ 0 ≤ n ∧ n ≤ 14) rF fun _ n t => Grn n.toNat t) := by
  refine T.d__law_any.F.ok sc__law_any (fun vs H Q Ew h => ?_) (fun cdv A outer s H vs Q Ew hr h => ?_)
  · obtain ⟨_, _, _, _, _, _, _, rfl, _⟩ := h; rfl
  · obtain ⟨Hk, M, o, lv, l, nv, n, rfl, h1, h2, J, hl, hn, ⟨hnm, n0, n14⟩, q⟩ := h
    cases hn
    refine ⟨_, (pss_cons (ps_set (i := 3) sc__law_any.nd rfl (Or.inl rfl) (pe_call (ok__law_leaf T) (hr.mono (by decide)) (by rfl) T.g__law_leaf T.d__law_leaf.F.kp T.d__law_leaf.b .nil pass0 (pa_cons (pv 0) (pa_cons (pv 1) pa_nil))))
      (pss_cons (ps_for PassesOwn.never rfl (pi_range1 (by rfl) T.n_range (pa_cons (pv 2) pa_nil)) (pg_name (i := 4) sc__law_any.nd rfl (Or.inl rfl) (hf := Or.inr rfl))
      (pss_cons (ps_set (i := 5) sc__law_any.nd rfl (Or.inl rfl) (pe_call (ok__law_draw T) (hr.mono (by decide)) (by rfl) T.g__law_draw T.d__law_draw.F.kp T.d__law_draw.b .nil pass0 (pa_cons (pv 0) (pa_cons pe_int pa_nil))))
      (pss_cons (ps_set (i := 6) sc__law_any.nd rfl (Or.inl rfl) (pe_ifExp (PW.pt (pw_and (pt_cmpR op_eq (pe_call (ok__law_draw T) (hr.mono (by decide)) (by rfl) T.g__law_draw T.d__law_draw.F.kp T.d__law_draw.b .nil pass0 (pa_cons (pv 0) (pa_cons pe_int pa_nil))) pe_int (nomark _)) (pw_and1 (pt_cmpR op_lt (pe_callB (c_lenK (K := K) rfl) (by rfl) T.n_len (by decide +kernel) (pa_cons (pv 3) pa_nil)) pe_int (nomark _))))) (pv 3) (pe_call (ok__law_leaf T) (hr.mono (by decide)) (by rfl) T.g__law_leaf T.d__law_leaf.F.kp T.d__law_leaf.b .nil pass0 (pa_cons (pv 0) (pa_cons (pv 1) pa_nil)))))
      (pss_cons (ps_if (pt_cmpR op_eq (pe_call (ok__law_draw T) (hr.mono (by decide)) (by rfl) T.g__law_draw T.d__law_draw.F.kp T.d__law_draw.b .nil pass0 (pa_cons (pv 0) (pa_cons pe_int pa_nil))) pe_int (nomark _)) (pss_one (ps_set (i := 6) sc__law_any.nd rfl (Or.inl rfl) (pe_op op_cat (pv 6) (pe_lst (pa_cons (pe_call (ok__law_pick T) (hr.mono (by decide)) (by rfl) T.g__law_pick T.d__law_pick.F.kp T.d__law_pick.b .nil pass0 (pa_cons (pv 0) (pa_cons (pe_lst (pa_cons pe_str (pa_cons pe_str (pa_cons pe_str (pa_cons pe_str (pa_cons pe_str (pa_cons pe_str pa_nil))))))) pa_nil))) pa_nil))))) pss_nil)
      (pss_one (ps_if (pt_cmpR op_lt (pv 5) pe_int (nomark _)) (pss_one (ps_set (i := 3) sc__law_any.nd rfl (Or.inl rfl) (pe_ifExp (pt_cmpR op_lt (pv 5) pe_int (nomark _)) (pe_op op_cat (pe_op op_cat (pv 3) (pv 6)) (pe_lst (pa_cons (pe_ix ix_str pe_str (pe_op op_modN (pe_callTy c_toInt (by rfl) T.n_int (by decide +kernel) (pa_cons (pv 5) pa_nil)) pe_int) (fun _ _ => rfl)) pa_nil))) (pe_op op_cat (pe_op op_cat (pv 6) (pv 3)) (pe_lst (pa_cons (pe_ix ix_str pe_str (pe_op op_modN (pe_callTy c_toInt (by rfl) T.n_int (by decide +kernel) (pa_cons (pv 5) pa_nil)) pe_int) (fun _ _ => rfl)) pa_nil)))))) (pss_one (ps_set (i := 3) sc__law_any.nd rfl (Or.inl rfl) (pe_op op_cat (pv 3) (pe_lst (pa_cons (pe_call (ok__law_pick T) (hr.mono (by decide)) (by rfl) T.g__law_pick T.d__law_pick.F.kp T.d__law_pick.b .nil pass0 (pa_cons (pv 0) (pa_cons (pe_lst (pa_cons pe_str (pa_cons (pe_op op_add_str pe_str (pe_callTy call_str_int (by rfl) T.n_str (by decide +kernel) (pa_cons (pe_call (ok__law_draw T) (hr.mono (by decide)) (by rfl) T.g__law_draw T.d__law_draw.F.kp T.d__law_draw.b .nil pass0 (pa_cons (pv 0) (pa_cons pe_int pa_nil))) pa_nil))) (pa_cons pe_str (pa_cons pe_str (pa_cons pe_str (pa_cons pe_str (pa_cons pe_str (pa_cons pe_str pa_nil))))))))) pa_nil))) pa_nil)))))))))))
      (pss_one (ps_ret (pv 3))))), ?_⟩
    refine j_c1 (o := o) (r := rLst rW) (s := rF) (P1 := nmL) (pre := nmL) (post := fun _ t => Leaf t) (Hk := Hk) rfl (EJ.of (e_var hl rfl) hnm) (fun _ h => h) _ _ _ _ _ _ (GM.refl h1 h2) (Ex.refl _) J _ fun v1 t1 H1 F1 M1 g1 e1 J1 hm1 hv1 ⟨_, _, ht1⟩ => ?_
    dsimp only [List.set, L2.start]
    refine g_forI (R := fun i _ v => v = .int (i : Int)) (K := F1) (it_range1 (e_var (x := n) rfl rfl) n0 (by omega)) g1 (fun i F M' σ' => ∃ (mv : V) (t : Tr) (a b c : Option V), σ' = [some (.ref o), some lv, some (.int n), some mv, a, b, c] ∧ rF F mv t ∧ Grn i t ∧ Jar F M' o ∧ (∀ a, a ≠ o → M' a = M a) ∧ Ex Hk F)
      (fun F e => ⟨v1, t1, none, none, none, rfl, up (r := rF) e hv1, ht1.grn, J1.up e, hm1, e1.trans e⟩) ?_ (fun i F F' M' σ' e ⟨mv, t, a, b, c, i1, i2, i3, i4, i5, i6⟩ => ⟨mv, t, a, b, c, i1, up (r := rF) e i2, i3, i4.up e, i5, i6.trans e⟩) ?_
    · rintro F0 e0 i vi F M' σ' H' hi ⟨mv, t, a, b, c, rfl, hmv, hg, J2, hm2, e2⟩ g2 ef _ rfl
      have hi : i ≤ 14 := by omega
      have hnod := hg.small (by omega)
      have htok := hg.1
      dsimp only [gName, List.set]
      refine j_d (Hk := F) (n := 12) rfl e_int (by decide) (by decide) _ _ _ _ _ _ g2 (Ex.refl _) J2 _ fun v3 d H3 F3 M3 g3 e3 J3 hm3 hv3 ⟨d0, d1⟩ => ?_
      cases hv3
      dsimp only [List.set]
      have hmv3 := up (r := rF) e3 hmv
      have elen : ∀ {F4 b c}, Ex F3 F4 → E rInt (tCB (Y.rLen K) (tCons (tVar 3) tNil)) [some (.ref o), some lv, some (.int n), some mv, some (.int (i : Int)), b, c] F4 (nodes t : Int) := fun e => e_len (Kf := K) (r := rWd) (xs := pst t) (e_var (r := rF) (up (r := rF) e hmv3) rfl)
      have ep : EJ o rF (Pie0 t) (tIf (tAnd (tTest (tOp rEq (tCall (spJ rInt dPre rInt dPost) [] E0 (tCons (tVar 0) (tCons (tC (.int 9)) tNil))) (tC (.int 0)))) (tTest (tOp (rI0 fun i j => .bl (decide (i < j))) (tCB (Y.rLen K) (tCons (tVar 3) tNil)) (tC (.int 12))))) (tVar 3) (tCall (spJ (rLst rW) nmL rF fun _ t => Leaf t) [] E0 (tCons (tVar 0) (tCons (tVar 1) tNil)))) [some (.ref o), some lv, some (.int n), some mv, some (.int (i : Int)), some (.int d), c] F3 := by
        refine j_if (TJ.and (TJ.test (j_eqI (j_d (n := 9) rfl e_int (by decide) (by decide)))) fun _ => TJ.of (t_test (e_b0 (p := fun i j => decide (i < j)) (elen (Ex.refl _)) e_int))) (fun hb => ?_) (fun _ => ?_)
        · have hlt : nodes t < 12 := by
            rcases hb with ⟨z, _⟩ | ⟨_, _, z⟩
            · cases z
            · have := of_decide_eq_true z.symm; omega
          exact EJ.of (e_var hmv3 rfl) (.inr ⟨hlt, rfl⟩)
        · exact (j_c1 (r := rLst rW) (P1 := nmL) rfl (EJ.of (e_var (up (e2.trans e3) hl) rfl) hnm) (fun _ h => h)).imp fun y ⟨_, _, hy⟩ => .inl hy
      refine ep _ _ _ _ _ _ g3 (Ex.refl _) J3 _ fun pv p H4 F4 M4 g4 e4 J4 hm4 hpv hp => ?_
      dsimp only [List.set]
      have main : ∀ (pv : V) (p : Tr) H5 F5 M5, GM Hk H M F5 H5 M5 → Ex F4 F5 → Jar F5 M5 o → (∀ a, a ≠ o → M5 a = M a) → rF F5 pv p → Pie t p → 
          tIfS (tTest (tOp (rI0 fun i j => .bl (decide (i < j))) (tVar 5) (tC (.int 8)))) (tAsg (tIf (tTest (tOp (rI0 fun i j => .bl (decide (i < j))) (tVar 5) (tC (.int 4)))) (tOp rCat (tOp rCat (tVar 3) (tVar 6)) (tLst (tCons (tOp rIxS (tC (.str "+-*/")) (tOp (rI (fun _ j => j ≠ 0) fun i j => .int (i.fmod j)) (tCB rToInt (tCons (tVar 5) tNil)) (tC (.int 4)))) tNil))) (tOp rCat (tOp rCat (tVar 6) (tVar 3)) (tLst (tCons (tOp rIxS (tC (.str "+-*/")) (tOp (rI (fun _ j => j ≠ 0) fun i j => .int (i.fmod j)) (tCB rToInt (tCons (tVar 5) tNil)) (tC (.int 4)))) tNil)))) (gName 3))
            (tAsg (tOp rCat (tVar 3) (tLst (tCons (tCall (spJ rMenu mPre rV fun us u => u ∈ us) [] E0 (tCons (tVar 0) (tCons (tLst (tCons (tC (.str "~")) (tCons (tOp (fun x y H Q => ∃ i j, x = V.str i ∧ y = V.str j ∧ i.length + j.length ≤ sizeLine ∧ Q (.str (i ++ j)) H) (tC (.str "^")) (tCB (fun xs H Q => ∃ i, xs = [V.int i] ∧ i.natAbs.log2 < 1920 ∧ Q (.str (toString i)) H) (tCons (tCall (spJ rInt dPre rInt dPost) [] E0 (tCons (tVar 0) (tCons (tC (.int 10)) tNil))) tNil))) (tCons (tC (.str "exp")) (tCons (tC (.str "sin")) (tCons (tC (.str "tan")) (tCons (tC (.str "atan")) (tCons (tC (.str "log")) (tCons (tC (.str "~")) tNil))))))))) tNil))) tNil))) (gName 3))
            { nx := fun σ2 H2 => ∃ F2 M2, GM Hk H M F2 H2 M2 ∧ Ex F0 F2 ∧ ∃ (mv : V) (t : Tr) (a b c : Option V), σ2 = [some (.ref o), some lv, some (.int n), some mv, a, b, c] ∧ rF F2 mv t ∧ Grn (i + 1) t ∧ Jar F2 M2 o ∧ (∀ a, a ≠ o → M2 a = M a) ∧ Ex Hk F2, rt := Q, ct := fun σ2 H2 => ∃ F2 M2, GM Hk H M F2 H2 M2 ∧ Ex F0 F2 ∧ ∃ (mv : V) (t : Tr) (a b c : Option V), σ2 = [some (.ref o), some lv, some (.int n), some mv, a, b, c] ∧ rF F2 mv t ∧ Grn (i + 1) t ∧ Jar F2 M2 o ∧ (∀ a, a ≠ o → M2 a = M a) ∧ Ex Hk F2, bk := tRet (tVar 3) { nx := fun _ H' => Q .non H', rt := Q } }
            [some (.ref o), some lv, some (.int n), some mv, some (.int (i : Int)), some (.int d), some pv] H5 := by
        intro pv p H5 F5 M5 g5 e5 J5 hm5 hpv hp
        have hmv5 := up (r := rF) (e4.trans e5) hmv3
        have e25 := e2.trans (e3.trans (e4.trans e5))
        have ef5 := ef.trans (e3.trans (e4.trans e5))
        have np : nodes p ≤ 120 := by
          rcases hp with hp | ⟨hn, hp⟩
          · rcases hp.2.2 with z | z <;> omega
          · rcases hp.2.2 with z | z <;> omega
        have eM : EJ o (rLst rWd) (fun x => x = pst t) (tVar 3) [some (.ref o), some lv, some (.int n), some mv, some (.int (i : Int)), some (.int d), some pv] F5 := EJ.of (e_var (r := rF) hmv5 rfl) rfl
        have eP : EJ o (rLst rWd) (fun x => x = pst p) (tVar 6) [some (.ref o), some lv, some (.int n), some mv, some (.int (i : Int)), some (.int d), some pv] F5 := EJ.of (e_var (r := rF) hpv rfl) rfl
        have lM : ∀ x : List Stp, x = pst t → x.length ≤ 120 := fun x hx => by subst hx; show nodes t ≤ 120; omega
        have lP : ∀ x : List Stp, x = pst p → x.length ≤ 120 := fun x hx => by subst hx; exact np
        have eO : EJ o (rLst rWd) (fun x => x = [.op (opN (d.fmod 4))]) (tLst (tCons (tOp rIxS (tC (.str "+-*/")) (tOp (rI (fun _ j => j ≠ 0) fun i j => .int (i.fmod j)) (tCB rToInt (tCons (tVar 5) tNil)) (tC (.int 4)))) tNil)) [some (.ref o), some lv, some (.int n), some mv, some (.int (i : Int)), some (.int d), some pv] F5 :=
          (j_lst (ja_cons (j_op4 (d := d) rfl) ja_nil) (by rintro _ ⟨_, _, rfl, _, rfl⟩; show 1 ≤ 1000; decide)).imp (by rintro _ ⟨_, _, rfl, rfl, rfl⟩; rfl)
        have fin : ∀ {te : TE}, EJ o (rLst rWd) (fun x => ∃ u, x = pst u ∧ Grn (i + 1) u) te [some (.ref o), some lv, some (.int n), some mv, some (.int (i : Int)), some (.int d), some pv] F5 → ∀ H6, GM Hk H M F5 H6 M5 → tAsg te (gName 3) { nx := fun σ2 H2 => ∃ F2 M2, GM Hk H M F2 H2 M2 ∧ Ex F0 F2 ∧ ∃ (mv : V) (t : Tr) (a b c : Option V), σ2 = [some (.ref o), some lv, some (.int n), some mv, a, b, c] ∧ rF F2 mv t ∧ Grn (i + 1) t ∧ Jar F2 M2 o ∧ (∀ a, a ≠ o → M2 a = M a) ∧ Ex Hk F2, rt := Q, ct := fun σ2 H2 => ∃ F2 M2, GM Hk H M F2 H2 M2 ∧ Ex F0 F2 ∧ ∃ (mv : V) (t : Tr) (a b c : Option V), σ2 = [some (.ref o), some lv, some (.int n), some mv, a, b, c] ∧ rF F2 mv t ∧ Grn (i + 1) t ∧ Jar F2 M2 o ∧ (∀ a, a ≠ o → M2 a = M a) ∧ Ex Hk F2, bk := tRet (tVar 3) { nx := fun _ H' => Q .non H', rt := Q } } [some (.ref o), some lv, some (.int n), some mv, some (.int (i : Int)), some (.int d), some pv] H6 := fun h H6 g6 =>
          h _ _ _ _ _ _ g6 (Ex.refl _) J5 _ fun v7 x H7 F7 M7 g7 e7 J7 hm7 hv7 ⟨u, hx, hu⟩ => ⟨F7, M7, g7, ef5.trans e7, v7, u, _, _, _, rfl, by show rLst rWd F7 v7 (pst u); rw [← hx]; exact hv7, hu, J7, fun a ha => (hm7 a ha).trans (hm5 a ha), e25.trans e7⟩
        refine g_if (b := decide (d < 8)) (t_test (e_b0 (p := fun i j => decide (i < j)) (e_var (x := d) rfl rfl) e_int)) g5 (fun _ H6 g6 => ?_) (fun _ H6 g6 => ?_)
        · refine fin (j_if (TJ.of (b := decide (d < 4)) (t_test (e_b0 (p := fun i j => decide (i < j)) (e_var (x := d) rfl rfl) e_int))) (fun _ => ?_) (fun _ => ?_)) H6 g6
          · refine (j_cat (n := 240) (m := 1) (j_cat (n := 120) (m := 120) eM eP lM lP (by decide)) eO ?_ ?_ (by decide)).imp ?_
            · rintro _ ⟨x, y, hx, hy, rfl⟩; have := lM x hx; have := lP y hy; simp; omega
            · rintro _ rfl; exact Nat.le_refl _
            · rintro _ ⟨_, _, ⟨_, _, rfl, rfl, rfl⟩, rfl, rfl⟩; exact ⟨.op (opN (d.fmod 4)) t p, rfl, (pie_op hg hp _).1⟩
          · refine (j_cat (n := 240) (m := 1) (j_cat (n := 120) (m := 120) eP eM lP lM (by decide)) eO ?_ ?_ (by decide)).imp ?_
            · rintro _ ⟨x, y, hx, hy, rfl⟩; have := lP x hx; have := lM y hy; simp; omega
            · rintro _ rfl; exact Nat.le_refl _
            · rintro _ ⟨_, _, ⟨_, _, rfl, rfl, rfl⟩, rfl, rfl⟩; exact ⟨.op (opN (d.fmod 4)) p t, rfl, (pie_op hg hp _).2⟩
        · refine fin ((j_cat (n := 120) (m := 1) (Pm := fun l => ∃ s, Un s ∧ l = [s]) eM ((j_lst (ja_cons (P1 := Un) ((j_pick rfl (j_lst (ja_all (j_stp .neg rfl (.inl rfl)) (ja_all (P3 := Un) ?_ (ja_all (j_stp (.call [101, 120, 112]) rfl (.inr (.inr ⟨_, by decide, rfl⟩))) (ja_all (j_stp (.call [115, 105, 110]) rfl (.inr (.inr ⟨_, by decide, rfl⟩))) (ja_all (j_stp (.call [116, 97, 110]) rfl (.inr (.inr ⟨_, by decide, rfl⟩))) (ja_all (j_stp (.call [97, 116, 97, 110]) rfl (.inr (.inr ⟨_, by decide, rfl⟩))) (ja_all (j_stp (.call [108, 111, 103]) rfl (.inr (.inr ⟨_, by decide, rfl⟩))) (ja_all (j_stp .neg rfl (.inl rfl)) ja_all0)))))))) ?_) ?_).imp ?_) ja_nil) ?_).imp ?_) lM ?_ (by decide)).imp ?_) H6 g6
          · refine (j_catW (Pa := fun x => x = [94]) (n := 1) (m := 1) (j_w rfl) ((j_str (j_d (n := 10) rfl e_int (by decide) (by decide)) (fun d hd => by omega)).imp (P1' := fun x => ∃ k : Nat, k ≤ 9 ∧ x = numL k) ?_) ?_ ?_ (by decide)).map ?_
            · rintro x ⟨k, _, hk, rfl⟩; exact ⟨k, by omega, rfl⟩
            · rintro _ rfl; exact Nat.le_refl _
            · rintro _ ⟨k, hk, rfl⟩; rw [numL_lt (by omega)]; exact Nat.le_refl _
            · rintro F v x hv ⟨_, _, rfl, ⟨k, hk, rfl⟩, rfl⟩
              exact ⟨.pow k, by show v = .str (S (Stp.w (.pow k))); rw [← dig_w hk]; exact hv, .inr (.inl ⟨k, hk, rfl⟩)⟩
          · rintro l ⟨h, _⟩; omega
          · rintro l ⟨h, _⟩; omega
          · rintro x ⟨l, ⟨_, h⟩, hx⟩; exact h x hx
          · rintro _ ⟨_, _, rfl, _, rfl⟩; show 1 ≤ 1000; decide
          · rintro _ ⟨s, _, rfl, hs, rfl⟩; exact ⟨s, hs, rfl⟩
          · rintro _ ⟨s, _, rfl⟩; exact Nat.le_refl _
          · rintro _ ⟨_, _, rfl, ⟨s, hs, rfl⟩, rfl⟩
            obtain ⟨u, hu1, hu2⟩ := grn_ap hg hs
            exact ⟨u, hu1.symm, hu2⟩
      refine g_ifJ (TJ.test (j_eqI (j_d (n := 5) rfl e_int (by decide) (by decide)))) g4 (Ex.refl _) J4 fun b5 H5 F5 M5 g5 e5 J5 hm5 _ => ?_
      have hm05 : ∀ a, a ≠ o → M5 a = M a := fun a ha => ((hm5 a ha).trans (hm4 a ha)).trans ((hm3 a ha).trans (hm2 a ha))
      split
      · have eQ : EJ o (rLst rWd) (fun x => ∃ u, x = pst u ∧ Pie t u) (tOp rCat (tVar 6) (tLst (tCons (tCall (spJ rMenu mPre rV fun us u => u ∈ us) [] E0 (tCons (tVar 0) (tCons (tLst (tCons (tC (.str "~")) (tCons (tC (.str "^0")) (tCons (tC (.str "^9")) (tCons (tC (.str "cos")) (tCons (tC (.str "log")) (tCons (tC (.str "exp")) tNil))))))) tNil))) tNil))) [some (.ref o), some lv, some (.int n), some mv, some (.int (i : Int)), some (.int d), some pv] F5 := by
          refine (j_cat (n := 120) (m := 1) (Pl := fun l => l = pst p) (Pm := fun l => ∃ s, Un s ∧ l = [s]) (EJ.of (e_var (r := rF) (up (r := rF) e5 hpv) rfl) rfl) ((j_lst (ja_cons (P1 := Un) ((j_pick rfl (j_lst (ja_all (j_stp .neg rfl (.inl rfl)) (ja_all (j_stp (.pow 0) rfl (.inr (.inl ⟨_, by decide, rfl⟩))) (ja_all (j_stp (.pow 9) rfl (.inr (.inl ⟨_, by decide, rfl⟩))) (ja_all (j_stp (.call [99, 111, 115]) rfl (.inr (.inr ⟨_, by decide, rfl⟩))) (ja_all (j_stp (.call [108, 111, 103]) rfl (.inr (.inr ⟨_, by decide, rfl⟩))) (ja_all (j_stp (.call [101, 120, 112]) rfl (.inr (.inr ⟨_, by decide, rfl⟩))) ja_all0)))))) ?_) ?_).imp ?_) ja_nil) ?_).imp ?_) ?_ ?_ (by decide)).imp ?_
          · rintro l ⟨h, _⟩; omega
          · rintro l ⟨h, _⟩; omega
          · rintro x ⟨l, ⟨_, h⟩, hx⟩; exact h x hx
          · rintro _ ⟨_, _, rfl, _, rfl⟩; show 1 ≤ 1000; decide
          · rintro _ ⟨s, _, rfl, hs, rfl⟩; exact ⟨s, hs, rfl⟩
          · rintro _ rfl
            show nodes p ≤ 120
            rcases hp with hp | ⟨hn, rfl⟩
            · rw [hp.2.2.2.1]; decide
            · omega
          · rintro _ ⟨s, _, rfl⟩; exact Nat.le_refl _
          · rintro _ ⟨_, _, rfl, ⟨s, hs, rfl⟩, rfl⟩
            obtain ⟨u, hu1, hu2⟩ := hp.un htok hs
            exact ⟨u, hu1.symm, hu2⟩
        refine eQ _ _ _ _ _ _ g5 (Ex.refl _) J5 _ fun v6 x H6 F6 M6 g6 e6 J6 hm6 hv6 ⟨u, hx, hu⟩ => ?_
        exact main v6 u H6 F6 M6 g6 (e5.trans e6) J6 (fun a ha => (hm6 a ha).trans (hm05 a ha)) (by show rLst rWd F6 v6 (pst u); rw [← hx]; exact hv6) hu
      · exact main pv p H5 F5 M5 g5 e5 J5 hm05 (up (r := rF) e5 hpv) (hp.pie htok)
    · rintro F M' σ' H' ⟨mv, t, a, b, c, rfl, hmv, hg, J2, hm2, e2⟩ g2 ef
      exact ⟨mv, rfl, q mv t H' F M' g2 J2 hm2 hmv hg⟩
end
end F1

set_option Elab.async false
set_option linter.all false
set_option autoImplicit false
set_option maxRecDepth 100000
set_option maxHeartbeats 8000000
/-! # Loose writings; bent texts -/
namespace F1
open PySem L2 Y
open Pl hiding Sp Ss PA PB RA RW RP RS
/-- a text and how tightly it binds, of a tree -/
def rLo : Rp Tr := fun H v u => ∃ x lv q, rPk H v (x, ((lv : Nat) : Int)) ∧ Lo u lv q x
instance : Mono rLo := ⟨fun e ⟨x, lv, q, h1, h2⟩ => ⟨x, lv, q, up (r := rPk) e h1, h2⟩⟩
theorem lo_q {t : Tr} {lv : Nat} {x : W} (h : Lo t lv true x) : lv = 4 := by cases h; rfl
theorem lo_held {t : Tr} {lv : Nat} {q : Bool} {x : W} (h : Lo t lv q x) {k : Nat} (hk : k ≤ 4) : ∃ lv' q', k ≤ lv' ∧ Lo t lv' q' (brkI (x, (lv : Int)) (k : Int)) := by
  unfold brkI
  by_cases c : lv < k
  · rw [if_pos (by dsimp only; omega)]
    have : q = false := by
      cases q with
      | false => rfl
      | true => have := lo_q h; omega
    subst this
    have := Lo.br h bl_nil
    simp only [List.append_nil] at this
    exact ⟨4, true, hk, this⟩
  · rw [if_neg (by dsimp only; omega)]
    exact ⟨lv, q, by omega, h⟩
theorem lo_l {t : Tr} {lv : Nat} {q : Bool} {x : W} (h : Lo t lv q x) (hz : size t ≤ 120) : x.length ≤ 3604 := by
  have := lo_len h
  split at this <;> omega
def LooseP (t : Tr) : Prop := ok t ∧ digs t ≤ 15 ∧ size t ≤ 110
section
variable {P : Program} {w : World} {K : PySem.W.Frag} {mg : Str → Option Value} {base : Heap}
abbrev tCatS : R2 := fun x y H Q => ∃ i j, x = V.str i ∧ y = V.str j ∧ i.length + j.length ≤ sizeLine ∧ Q (.str (i ++ j)) H
abbrev tBl (j : Nat) : TE := tCall (spJ0 rW Bl) [] E0 (tCons (tVar j) tNil)
section
variable {α : Type} {o : Addr} {σ : L2.St} {Hk : Hp} {ta tb te : TE} {P1 : W → Prop} {x y : W}
theorem j_bl {i : Nat} (hi : σ[i]? = some (some (.ref o))) : EJ o rW Bl (tBl i) σ Hk := j_c0 hi
/-- a text before: what it is, and a blank behind it -/
theorem j_cB {n : Nat} {i : Nat} (hi : σ[i]? = some (some (.ref o))) (ha : EJ o rW P1 ta σ Hk) (h1 : ∀ x, P1 x → x.length ≤ n) (hz : n ≤ 90000) : EJ o rW (fun z => ∃ x b, P1 x ∧ Bl b ∧ z = x ++ b) (tOp tCatS ta (tBl i)) σ Hk :=
  j_catW (n := n) (m := 2) ha (j_bl hi) h1 (fun x h => h.2) (by omega)
theorem j_cX {n : Nat} (ha : EJ o rW P1 ta σ Hk) (h1 : ∀ x, P1 x → x.length ≤ n) (hb : E rW tb σ Hk y) (hy : y.length ≤ 5000) (hz : n ≤ 90000) : EJ o rW (fun z => ∃ x, P1 x ∧ z = x ++ y) (tOp tCatS ta tb) σ Hk :=
  (j_catW (n := n) (m := 5000) (Pd := fun z => z = y) ha (EJ.of hb rfl) h1 (fun x h => by subst h; exact hy) (by omega)).imp fun z ⟨x, y', h1, h2, h3⟩ => ⟨x, h1, by rw [h3, h2]⟩
theorem j_v (h : E rW ta σ Hk x) : EJ o rW (fun y => y = x) ta σ Hk := EJ.of h rfl
/-- a pair of what is told -/
theorem j_pk {n : Int} (ha : EJ o rW P1 ta σ Hk) (hb : E rInt tb σ Hk n) : EJ o rPk (fun p => P1 p.1 ∧ p.2 = n) (tTup (tCons ta (tCons tb tNil))) σ Hk := fun K0 H0 M0 F0 H M g e J Q q =>
  ha K0 H0 M0 F0 H M g e J _ fun v x H1 F1 M1 g1 e1 J1 hm1 hv hx => g_e (hb.mono (e.trans e1)) g1 fun w H2 F2 g2 e2 hw => ⟨two_le, fun p hp => by
    have g3 := g2.newk (u := .tup [v, w]) hp
    have e3 : Ex F2 (upd F2 p (.tup [v, w])) := Ex.new (g2.f.free hp)
    exact q (.ref p) (x, n) _ _ M1 g3 ((e1.trans e2).trans e3) (J1.up (e2.trans e3)) hm1 ⟨p, rfl, by rw [upd_same]; cases hv; cases hw; rfl⟩ ⟨hx, rfl⟩⟩
end
theorem g_sp2J {α γ β : Type} {r : Rp α} {r2 : Rp γ} {s : Rp β} {pre : α → γ → Prop} {f : α → γ → β} {v v2 : V} {x : α} {y : γ} {Hk H M K0 H0 M0 : Hp} {Q : VK} {Ew : XK} (g : GM K0 H0 M0 Hk H M) (hv : r Hk v x) (hv2 : r2 Hk v2 y) (hp : pre x y) (k : ∀ u H2 F, GM K0 H0 M0 F H2 M → Ex Hk F → s F u (f x y) → Q u H2) : sp2 r r2 s pre f [v, v2] H Q Ew :=
  ⟨Hk, g.f, v, x, v2, y, rfl, hv, hv2, hp, fun u H' F gr hs => k u H' F (g.grow gr) gr.k hs⟩
theorem ok__law_bent (T : Txt w K mg) : FnOk P w K mg base CX0 3 T.d__law_bent.a T.d__law_bent.fd ["jar", "words"] (spJ rW (fun x => x.length ≤ 10000) rW fun x y => ∃ a r b s, x = a ++ r ++ b ∧ y = a ++ s ++ b ∧ (r = [] ∨ ∃ c, r = [c]) ∧ Ins s) := by
  refine T.d__law_bent.F.ok sc__law_bent (fun vs H Q Ew h => ?_) (fun cdv A outer s H vs Q Ew hr h => ?_)
  · obtain ⟨_, _, _, _, _, rfl, _⟩ := h; rfl
  · obtain ⟨Hk, M, o, v, x, rfl, h1, h2, J, hv, hx, q⟩ := h
    cases hv
    refine ⟨_, (pss_cons (ps_set (i := 2) sc__law_bent.nd rfl (Or.inl rfl) (pe_call (ok__law_draw T) (hr.mono (by decide)) (by rfl) T.g__law_draw T.d__law_draw.F.kp T.d__law_draw.b .nil pass0 (pa_cons (pv 0) (pa_cons (pe_op op_add (pe_callB call_len_str (by rfl) T.n_len (by decide +kernel) (pa_cons (pv 1) pa_nil)) pe_int) pa_nil))))
      (pss_cons (ps_set (i := 3) sc__law_bent.nd rfl (Or.inl rfl) (pe_call (ok__law_pick T) (hr.mono (by decide)) (by rfl) T.g__law_pick T.d__law_pick.F.kp T.d__law_pick.b .nil pass0 (pa_cons (pv 0) (pa_cons (pe_lst (pa_cons pe_str (pa_cons pe_str (pa_cons pe_str (pa_cons pe_str (pa_cons pe_str (pa_cons pe_str (pa_cons pe_str (pa_cons pe_str (pa_cons pe_str (pa_cons pe_str (pa_cons pe_str (pa_cons pe_str (pa_cons pe_str (pa_cons pe_str (pa_cons pe_str (pa_cons pe_str pa_nil))))))))))))))))) pa_nil))))
      (pss_cons (ps_set (i := 4) sc__law_bent.nd rfl (Or.inl rfl) (pe_call (ok__law_draw T) (hr.mono (by decide)) (by rfl) T.g__law_draw T.d__law_draw.F.kp T.d__law_draw.b .nil pass0 (pa_cons (pv 0) (pa_cons pe_int pa_nil))))
      (pss_one (ps_ret (pe_op op_add_str (pe_op op_add_str (pe_slice sl_str (pv 1) po_none (po_some (pv 2))) (pe_ifExp (pt_cmpR op_lt (pv 4) pe_int (nomark _)) (pv 3) pe_str)) (pe_slice sl_str (pv 1) (po_some (pe_op op_add (pv 2) (pe_callTy c_toInt (by rfl) T.n_int (by decide +kernel) (pa_cons (pe_cmpR op_gt (pv 4) pe_int (nomark _)) pa_nil)))) po_none))))))), ?_⟩
    refine j_d (Hk := Hk) (n := (x.length : Int) + 1) rfl (e_i0 (f := fun i j => i + j) (e_lenW (a := x) (e_var rfl rfl) (by omega)) (e_int (n := 1))) (by omega) (by omega) _ _ _ _ _ _ (GM.refl h1 h2) (Ex.refl _) J _ fun v1 d1 H1 F1 M1 g1 e1 J1 hm1 hv1 ⟨a0, a1⟩ => ?_
    cases hv1
    obtain ⟨k, rfl⟩ : ∃ k : Nat, d1 = (k : Int) := ⟨d1.toNat, by omega⟩
    have hk : k ≤ x.length := by omega
    dsimp only [List.set, L2.start]
    have ew : ∀ {σ : L2.St} {Hk : Hp} {z : Str} (a : W), S a = z → Ins a → EJ o rW Ins (tC (.str z)) σ Hk := fun a h hi => EJ.of (e_w h) hi
    refine (j_pick (o := o) (r := rW) (Hk := F1) rfl (j_lst (ja_all (ew [32] rfl (.inr (.inl ⟨_, rfl⟩))) (ja_all (ew [43] rfl (.inr (.inl ⟨_, rfl⟩))) (ja_all (ew [45] rfl (.inr (.inl ⟨_, rfl⟩))) (ja_all (ew [42] rfl (.inr (.inl ⟨_, rfl⟩))) (ja_all (ew [47] rfl (.inr (.inl ⟨_, rfl⟩))) (ja_all (ew [94] rfl (.inr (.inl ⟨_, rfl⟩))) (ja_all (ew [40] rfl (.inr (.inl ⟨_, rfl⟩))) (ja_all (ew [41] rfl (.inr (.inl ⟨_, rfl⟩))) (ja_all (ew [48] rfl (.inr (.inl ⟨_, rfl⟩))) (ja_all (ew [120] rfl (.inr (.inl ⟨_, rfl⟩))) (ja_all (ew [40, 45] rfl (.inr (.inr (.inl rfl)))) (ja_all (ew [101, 120, 112, 40] rfl (.inr (.inr (.inr rfl)))) (ja_all (ew [64] rfl (.inr (.inl ⟨_, rfl⟩))) (ja_all (ew [46] rfl (.inr (.inl ⟨_, rfl⟩))) (ja_all (ew [88] rfl (.inr (.inl ⟨_, rfl⟩))) (ja_all (ew [50] rfl (.inr (.inl ⟨_, rfl⟩))) ja_all0)))))))))))))))) ?_) ?_) _ _ _ _ _ _ g1 (Ex.refl _) J1 _ fun v2 s2 H2 F2 M2 g2 e2 J2 hm2 hv2 ⟨l, ⟨_, hl⟩, hs2⟩ => ?_
    · rintro l ⟨h, _⟩; omega
    · rintro l ⟨h, _⟩; omega
    have hins := hl s2 hs2
    cases hv2
    dsimp only [List.set]
    refine j_d (Hk := F2) (n := 3) rfl e_int (by decide) (by decide) _ _ _ _ _ _ g2 (Ex.refl _) J2 _ fun v3 d3 H3 F3 M3 g3 e3 J3 hm3 hv3 ⟨b0, b1⟩ => ?_
    cases hv3
    dsimp only [List.set]
    have sl4 : s2.length ≤ 4 := (ins_dg hins).2.2.1
    have vx : ∀ {F : Hp}, E rW (tVar 1) [some (.ref o), some (.str (S x)), some (.int (k : Int)), some (.str (S s2)), some (.int d3)] F x := e_var rfl rfl
    have esg : E rW (tIf (tTest (tOp (rI0 fun i j => .bl (decide (i < j))) (tVar 4) (tC (.int 2)))) (tVar 3) (tC (.str ""))) [some (.ref o), some (.str (S x)), some (.int (k : Int)), some (.str (S s2)), some (.int d3)] F3 (if d3 < 2 then s2 else []) := by
      refine e_if (b := decide (d3 < 2)) (t_test (e_b0 (p := fun i j => decide (i < j)) (e_var (x := d3) rfl rfl) e_int)) (fun c => ?_) (fun c => ?_)
      · rw [if_pos (of_decide_eq_true c)]; exact e_var rfl rfl
      · rw [if_neg (of_decide_eq_false c)]; exact e_w rfl
    have ek : E rInt (tOp (rI0 fun i j => .int (i + j)) (tVar 2) (tCB rToInt (tCons (tOp (rI0 fun i j => .bl (decide (i > j))) (tVar 4) (tC (.int 0))) tNil))) [some (.ref o), some (.str (S x)), some (.int (k : Int)), some (.str (S s2)), some (.int d3)] F3 (((k + if d3 > 0 then 1 else 0 : Nat)) : Int) := by
      refine (e_i0 (f := fun i j => i + j) (e_var (x := (k : Int)) rfl rfl) (e_b2i (b := decide (d3 > 0)) (e_b0 (p := fun i j => decide (i > j)) (e_var (x := d3) rfl rfl) e_int))).as ?_
      by_cases c : d3 > 0 <;> simp [c]
    have esl : (if d3 < 2 then s2 else []).length ≤ 4 := by
      split
      · exact sl4
      · exact Nat.zero_le _
    have h1l : (x.take k).length ≤ 10000 := by rw [List.length_take]; omega
    have h2l : ∀ m, (x.drop m).length ≤ 10000 := fun m => by rw [List.length_drop]; omega
    refine s_ret (e_catW (e_catW ((e_sliceW vx eo_none (eo_some (e_var (x := (k : Int)) rfl rfl)) (by omega)).as (cutL_to x k)) esg (by omega)) ((e_sliceW vx (eo_some ek) eo_none (by omega)).as (cutL_from x _)) (by rw [List.length_append]; have := h2l (k + if d3 > 0 then 1 else 0); omega)) g3.f fun v4 H4 F4 gr hv4 => ?_
    refine q v4 _ H4 F4 M3 (g3.grow gr) (J3.up gr.k) (fun a ha => (hm3 a ha).trans ((hm2 a ha).trans (hm1 a ha))) hv4 ⟨x.take k, (x.drop k).take (if d3 > 0 then 1 else 0), x.drop (k + if d3 > 0 then 1 else 0), if d3 < 2 then s2 else [], ?_, rfl, ?_, ?_⟩
    · rw [List.append_assoc, ← List.drop_drop, List.take_append_drop, List.take_append_drop]
    · by_cases c : d3 > 0
      · rw [if_pos c]
        cases e : x.drop k with
        | nil => exact .inl rfl
        | cons c r => exact .inr ⟨c, rfl⟩
      · rw [if_neg c]; exact .inl rfl
    · split
      · exact hins
      · exact .inl rfl
end
end F1

set_option Elab.async false
set_option linter.all false
set_option autoImplicit false
set_option maxRecDepth 100000
set_option maxHeartbeats 400000
/-! # Loose writings -/
namespace F1
open PySem L2 Y
open Pl hiding Sp Ss PA PB RA RW RP RS
section
variable {P : Program} {w : World} {K : PySem.W.Frag} {mg : Str → Option Value} {base : Heap}
section
variable {σ : L2.St} {H : Hp} {ta tb tc td te : TE} {tr : TA} {tg : TG} {D : Ends} {r : R2}
/-- the first text is reckoned ahead -/
theorem pow4A {R : V → Hp → Prop} (h : ∀ Q : VK, (∀ v H1, R v H1 → Q v H1) → ta σ H Q) (k : ∀ v H1, R v H1 → tAsg (tTup (tCons (tOp r (tOp r (tOp r (tOp r (tC v) tb) tc) td) te) tr)) tg D σ H1) :
    tAsg (tTup (tCons (tOp r (tOp r (tOp r (tOp r ta tb) tc) td) te) tr)) tg D σ H := h _ fun v H1 hr => k v H1 hr
theorem negA {R : V → Hp → Prop} {R2 : V → V → Hp → Prop} (h : ∀ Q : VK, (∀ v H1, R v H1 → Q v H1) → ta σ H Q) (h2 : ∀ v H1, R v H1 → ∀ Q : VK, (∀ w H2, R2 v w H2 → Q w H2) → tb σ H1 Q)
    (k : ∀ v w H2, R2 v w H2 → tAsg (tTup (tCons (tOp r (tC v) (tC w)) tr)) tg D σ H2) : tAsg (tTup (tCons (tOp r ta tb) tr)) tg D σ H := h _ fun v H1 hr => h2 v H1 hr _ fun w H2 hr2 => k v w H2 hr2
theorem callA {R : V → Hp → Prop} {R2 : V → V → Hp → Prop} (h : ∀ Q : VK, (∀ v H1, R v H1 → Q v H1) → ta σ H Q) (h2 : ∀ v H1, R v H1 → ∀ Q : VK, (∀ w H2, R2 v w H2 → Q w H2) → tb σ H1 Q)
    (k : ∀ v w H2, R2 v w H2 → tAsg (tTup (tCons (tOp r (tOp r (tOp r (tC v) (tC w)) tc) td) tr)) tg D σ H2) : tAsg (tTup (tCons (tOp r (tOp r (tOp r ta tb) tc) td) tr)) tg D σ H := h _ fun v H1 hr => h2 v H1 hr _ fun w H2 hr2 => k v w H2 hr2
end
/-- what stands behind a step: the jar, the stack -/
structure Lk (K0 H0 M0 M F F1 H1 M1 : Hp) (o p : Addr) (L : List Tr) : Prop where
  g : GM K0 H0 M0 F1 H1 M1
  e : Ex F F1
  j : Jar F1 M1 o
  m : ∀ a, a ≠ o → a ≠ p → M1 a = M a
  s : OnS rLo M1 F1 p L
section
variable {σ : L2.St} {K0 H0 M0 M F H F1 H1 M1 : Hp} {o p : Addr} {L : List Tr} {u : Tr} {te tk : TE}
theorem Lk.ej {α : Type} {r : Rp α} {P1 : α → Prop} (k : Lk K0 H0 M0 M F F1 H1 M1 o p L) (hop : p ≠ o) (h : EJ o r P1 te σ F1) (Q : VK) (q : ∀ v x H2 F2 M2, Lk K0 H0 M0 M F F2 H2 M2 o p L → Ex F1 F2 → r F2 v x → P1 x → Q v H2) : te σ H1 Q :=
  h K0 H0 M0 F1 H1 M1 k.g (Ex.refl _) k.j Q fun v x H2 F2 M2 g2 e2 J2 hm2 hv hx => by
    refine q v x H2 F2 M2 ⟨g2, k.e.trans e2, J2, fun a h1 h2 => (hm2 a h1).trans (k.m a h1 h2), ?_⟩ e2 hv hx
    obtain ⟨vs, h3, h4⟩ := k.s
    exact ⟨vs, by rw [hm2 p hop]; exact h3, p_up e2 h4⟩
theorem Lk.asg {α : Type} {r : Rp α} {P1 : α → Prop} {D : Ends} {i : Nat} (k : Lk K0 H0 M0 M F F1 H1 M1 o p L) (hop : p ≠ o) (h : EJ o r P1 te σ F1) (q : ∀ v x H2 F2 M2, Lk K0 H0 M0 M F F2 H2 M2 o p L → Ex F1 F2 → r F2 v x → P1 x → D.nx (σ.set i (some v)) H2) : tAsg te (gName i) D σ H1 :=
  k.ej hop h _ fun v x H2 F2 M2 k2 e2 hv hx => q v x H2 F2 M2 k2 e2 hv hx
theorem Lk.jm (k : Lk K0 H0 M0 M F F1 H1 M1 o p L) {M2 : Hp} (h : M2 o = M1 o) : Jar F1 M2 o := k.j.m h
/-- a text from the stack, in brackets if need be -/
theorem Lk.held (k : Lk K0 H0 M0 M F F1 H1 M1 o p (u :: L)) (hop : p ≠ o) (h2 : σ[2]? = some (some (.ref p))) {n : Nat} (hn : n ≤ 4) (hu : size u ≤ 120) (hk : E rInt tk σ F1 (n : Int)) (Q : VK)
    (q : ∀ v H2, (∃ F2 M2 x lv z, v = .str (S x) ∧ Lk K0 H0 M0 M F F2 H2 M2 o p L ∧ Ex F1 F2 ∧ n ≤ lv ∧ Lo u lv z x ∧ x.length ≤ 3604) → Q v H2) : tCall (sp2 rPk rInt rW (fun p _ => p.1.length ≤ 90000) brkI) [] E0 (tCons (tBM0 K "list" rPop (tVar 2)) (tCons tk tNil)) σ H1 Q := by
  refine g_pops (r := rLo) (K := K) (o_var h2) k.s k.g fun rv H5 M5 hrv g5 hs5 hm5 => ?_
  refine g_e hk g5 fun kv H6 F6 g6 e6 hkv => ?_
  obtain ⟨x, lv, z, hpk, hlo⟩ := hrv
  have hxl := lo_l hlo hu
  refine g_sp2J (Ew := E0) (x := (x, (lv : Int))) (y := (n : Int)) g6 (up (r := rPk) e6 hpk) hkv (by show x.length ≤ 90000; omega) fun yv H7 F7 g7 e7 hy => ?_
  obtain ⟨lv', z', h3, h4⟩ := lo_held hlo hn
  refine q yv H7 ⟨F7, M5, _, lv', z', hy, ⟨g7, (k.e.trans e6).trans e7, (k.j.m (hm5 o (Ne.symm hop))).up (e6.trans e7), fun a h1 h2 => (hm5 a h2).trans (k.m a h1 h2), hs5.up (e6.trans e7)⟩, e6.trans e7, h3, h4, lo_l h4 hu⟩
theorem Lk.pop0 (k : Lk K0 H0 M0 M F F1 H1 M1 o p (u :: L)) (hop : p ≠ o) (h2 : σ[2]? = some (some (.ref p))) (hu : size u ≤ 120) (Q : VK)
    (q : ∀ v H2, (∃ F2 M2 x lv z, v = .str (S x) ∧ Lk K0 H0 M0 M F F2 H2 M2 o p L ∧ Ex F1 F2 ∧ Lo u lv z x ∧ x.length ≤ 3604) → Q v H2) : tOp (rIxT K) (tBM0 K "list" rPop (tVar 2)) (tC (.int 0)) σ H1 Q := by
  refine g_pops (r := rLo) (K := K) (o_var h2) k.s k.g fun rv H5 M5 hrv g5 hs5 hm5 => ?_
  obtain ⟨x, lv, z, ⟨pp, rfl, hpp⟩, hlo⟩ := hrv
  exact ⟨pp, _, 0, _, rfl, rfl, st_of (g5.f _ _ hpp), rfl, q _ H5 ⟨F1, M5, x, lv, z, rfl, ⟨g5, k.e, k.j.m (hm5 o (Ne.symm hop)), fun a h1 h2 => (hm5 a h2).trans (k.m a h1 h2), hs5⟩, Ex.refl _, hlo, lo_l hlo hu⟩⟩
/-- onto the stack, in needless brackets now and then -/
theorem Lk.tail {D : Ends} {pa : Addr} {x : W} {lv : Nat} (k : Lk K0 H0 M0 M F F1 H1 M1 o p L) (hop : p ≠ o) (h0 : σ[0]? = some (some (.ref o))) (h2 : σ[2]? = some (some (.ref p))) (h7 : σ[7]? = some (some (.ref pa))) (hl : L.length ≤ 10000)
    (hp : F1 pa = some (.tup [.str (S x), .int (lv : Int)])) (hLo : Lo u lv false x) (hu : size u ≤ 120) (q : ∀ H2 F2 M2, Lk K0 H0 M0 M F F2 H2 M2 o p (u :: L) → D.nx σ H2) :
    tDrop (tBM K "list" rAppend (tVar 2) (tCons (tIf (tTest (tOp rEq (tCall (spJ rInt dPre rInt dPost) [] E0 (tCons (tVar 0) (tCons (tC (.int 6)) tNil))) (tC (.int 0)))) (tTup (tCons (tOp tCatS (tOp tCatS (tOp tCatS (tC (.str "(")) (tBl 0)) (tOp (rIxT K) (tVar 7) (tC (.int 0)))) (tC (.str ")"))) (tCons (tC (.int 4)) tNil))) (tVar 7)) tNil)) D σ H1 := by
  have hxl := lo_l hLo hu
  have hpk : rPk F1 (.ref pa) (x, (lv : Int)) := ⟨pa, rfl, hp⟩
  have ej : EJ o rLo (fun y => y = u) (tIf (tTest (tOp rEq (tCall (spJ rInt dPre rInt dPost) [] E0 (tCons (tVar 0) (tCons (tC (.int 6)) tNil))) (tC (.int 0)))) (tTup (tCons (tOp tCatS (tOp tCatS (tOp tCatS (tC (.str "(")) (tBl 0)) (tOp (rIxT K) (tVar 7) (tC (.int 0)))) (tC (.str ")"))) (tCons (tC (.int 4)) tNil))) (tVar 7)) σ F1 := by
    refine j_if (TJ.test (j_eqI (j_d (n := 6) h0 e_int (by decide) (by decide)))) (fun _ => ?_) (fun _ => ?_)
    · refine (j_pk (j_cX (n := 4000) (j_cX (n := 3) (j_cB (n := 1) h0 (j_w (a := [40]) rfl) ?_ (by decide)) ?_ (e_pk0 (e_var hpk h7)) (by dsimp only; omega) (by decide)) ?_ (e_w (a := [41]) rfl) (by decide) (by decide)) (e_int (n := 4))).map ?_
      · rintro _ rfl; exact Nat.le_refl _
      · rintro _ ⟨_, b, rfl, hb, rfl⟩; have := hb.2; simp; omega
      · rintro _ ⟨_, ⟨_, b, rfl, hb, rfl⟩, rfl⟩; have := hb.2; simp; omega
      · rintro F' v ⟨y, n⟩ hv ⟨⟨_, ⟨_, ⟨_, b, rfl, hb, rfl⟩, rfl⟩, hy⟩, hn⟩
        dsimp only at hy hn
        subst hy; subst hn
        exact ⟨u, ⟨_, 4, true, hv, Lo.br hLo hb⟩, rfl⟩
    · exact EJ.of (e_var (r := rLo) ⟨x, lv, false, hpk, hLo⟩ h7) rfl
  refine g_stkA (K := K) (o_var h2) ⟨_, k.s.choose_spec.1⟩ k.g ?_
  refine k.ej hop ej _ fun v y H2 F2 M2 k2 e2 hv hy => ?_
  subst hy
  refine g_pushS (r := rLo) (u := y) k2.s hl k2.g hv fun H3 M3 g3 hs3 hm3 => ?_
  exact q H3 F2 M3 ⟨g3, k2.e, k2.j.m (hm3 o (Ne.symm hop)), fun a h1 h2 => (hm3 a h2).trans (k2.m a h1 h2), hs3⟩
end
end
end F1

set_option Elab.async false
set_option linter.all false
set_option autoImplicit false
set_option maxRecDepth 100000
set_option maxHeartbeats 400000
/-! # Loose writings -/
namespace F1
open PySem L2 Y
open Pl hiding Sp Ss PA PB RA RW RP RS
section
variable {P : Program} {w : World} {K : PySem.W.Frag} {mg : Str → Option Value} {base : Heap}
theorem num_digs : ∀ (t : Tr) (z : W), Stp.num z ∈ pst t → z.length ≤ digs t
  | .num s, z, h => by cases List.mem_singleton.mp h; exact Nat.le_refl _
  | .name s, z, h => by cases List.mem_singleton.mp h
  | .call s t, z, h => by
    rcases List.mem_append.mp h with h | h
    · exact num_digs t z h
    · cases List.mem_singleton.mp h
  | .neg t, z, h => by
    rcases List.mem_append.mp h with h | h
    · exact num_digs t z h
    · cases List.mem_singleton.mp h
  | .pow t d, z, h => by
    rcases List.mem_append.mp h with h | h
    · exact num_digs t z h
    · cases List.mem_singleton.mp h
  | .op o l r, z, h => by
    rcases List.mem_append.mp h with h | h
    · rcases List.mem_append.mp h with h | h
      · exact Nat.le_trans (num_digs l z h) (Nat.le_max_left _ _)
      · exact Nat.le_trans (num_digs r z h) (Nat.le_max_right _ _)
    · cases List.mem_singleton.mp h
theorem ok__law_loose (T : Txt w K mg) : FnOk P w K mg base CX0 4 T.d__law_loose.a T.d__law_loose.fd ["jar", "formula"] (spJ rF LooseP rW fun t x => Tex t (ht t) x) := by
  refine T.d__law_loose.F.ok sc__law_loose (fun vs H Q Ew h => ?_) (fun cdv A outer s H vs Q Ew hr h => ?_)
  · obtain ⟨_, _, _, _, _, rfl, _⟩ := h; rfl
  · obtain ⟨Hk, M, o, v, t, rfl, h1, h2, J, hv, ⟨hok, hdg, hsz⟩, q⟩ := h
    refine ⟨_, (pss_cons (ps_set (i := 2) sc__law_loose.nd rfl (Or.inl rfl) (pe_lst pa_nil))
      (pss_cons (ps_for PassesOwn.never rfl (pi_list (pv 1)) (pg_name (i := 3) sc__law_loose.nd rfl (Or.inl rfl) (hf := Or.inr rfl))
      (pss_cons (ps_if (pt_cmpR op_in_seq (pv 3) (pe_tup (pa_cons pe_str (pa_cons pe_str (pa_cons pe_str (pa_cons pe_str pa_nil))))) (by rfl)) (pss_cons (ps_set (i := 4) sc__law_loose.nd rfl (Or.inl rfl) (pe_ifExp (pt_cmpR op_in_seq (pv 3) (pe_tup (pa_cons pe_str (pa_cons pe_str pa_nil))) (by rfl)) pe_int pe_int))
      (pss_cons (ps_set (i := 5) sc__law_loose.nd rfl (Or.inl rfl) (pe_call (ok__law_held T) (hr.mono (by decide)) (by rfl) T.g__law_held T.d__law_held.F.kp T.d__law_held.b .nil pass0 (pa_cons (pe_bm0 PySem.F.plainAttrs_list PySem.F.slot_list_pop PySem.F.type_list_pop mt_pop (pv 2)) (pa_cons (pe_op op_add (pv 4) pe_int) pa_nil))))
      (pss_cons (ps_set (i := 6) sc__law_loose.nd rfl (Or.inl rfl) (pe_call (ok__law_held T) (hr.mono (by decide)) (by rfl) T.g__law_held T.d__law_held.F.kp T.d__law_held.b .nil pass0 (pa_cons (pe_bm0 PySem.F.plainAttrs_list PySem.F.slot_list_pop PySem.F.type_list_pop mt_pop (pv 2)) (pa_cons (pv 4) pa_nil))))
      (pss_one (ps_set (i := 7) sc__law_loose.nd rfl (Or.inl rfl) (pe_tup (pa_cons (pe_op op_add_str (pe_op op_add_str (pe_op op_add_str (pe_op op_add_str (pv 6) (pe_call (ok__law_blank T) (hr.mono (by decide)) (by rfl) T.g__law_blank T.d__law_blank.F.kp T.d__law_blank.b .nil pass0 (pa_cons (pv 0) pa_nil))) (pv 3)) (pe_call (ok__law_blank T) (hr.mono (by decide)) (by rfl) T.g__law_blank T.d__law_blank.F.kp T.d__law_blank.b .nil pass0 (pa_cons (pv 0) pa_nil))) (pv 5)) (pa_cons (pv 4) pa_nil)))))))) (pss_one (ps_if (pt_cmpR op_eq (pv 3) pe_str (nomark _)) (pss_one (ps_set (i := 7) sc__law_loose.nd rfl (Or.inl rfl) (pe_tup (pa_cons (pe_op op_add_str (pe_op op_add_str pe_str (pe_call (ok__law_blank T) (hr.mono (by decide)) (by rfl) T.g__law_blank T.d__law_blank.F.kp T.d__law_blank.b .nil pass0 (pa_cons (pv 0) pa_nil))) (pe_call (ok__law_held T) (hr.mono (by decide)) (by rfl) T.g__law_held T.d__law_held.F.kp T.d__law_held.b .nil pass0 (pa_cons (pe_bm0 PySem.F.plainAttrs_list PySem.F.slot_list_pop PySem.F.type_list_pop mt_pop (pv 2)) (pa_cons pe_int pa_nil)))) (pa_cons pe_int pa_nil))))) (pss_one (ps_if (pt_cmpR op_eq (pe_ix ix_str (pv 3) pe_int (fun _ _ => rfl)) pe_str (nomark _)) (pss_one (ps_set (i := 7) sc__law_loose.nd rfl (Or.inl rfl) (pe_tup (pa_cons (pe_op op_add_str (pe_op op_add_str (pe_op op_add_str (pe_op op_add_str (pe_call (ok__law_held T) (hr.mono (by decide)) (by rfl) T.g__law_held T.d__law_held.F.kp T.d__law_held.b .nil pass0 (pa_cons (pe_bm0 PySem.F.plainAttrs_list PySem.F.slot_list_pop PySem.F.type_list_pop mt_pop (pv 2)) (pa_cons pe_int pa_nil))) (pe_call (ok__law_blank T) (hr.mono (by decide)) (by rfl) T.g__law_blank T.d__law_blank.F.kp T.d__law_blank.b .nil pass0 (pa_cons (pv 0) pa_nil))) pe_str) (pe_call (ok__law_blank T) (hr.mono (by decide)) (by rfl) T.g__law_blank T.d__law_blank.F.kp T.d__law_blank.b .nil pass0 (pa_cons (pv 0) pa_nil))) (pe_slice sl_str (pv 3) (po_some pe_int) po_none)) (pa_cons pe_int pa_nil))))) (pss_one (ps_if (pt_val (pe_call (ok__law_is_call T) (hr.mono (by decide)) (by rfl) T.g__law_is_call T.d__law_is_call.F.kp T.d__law_is_call.b .nil pass0 (pa_cons (pv 3) pa_nil))) (pss_one (ps_set (i := 7) sc__law_loose.nd rfl (Or.inl rfl) (pe_tup (pa_cons (pe_op op_add_str (pe_op op_add_str (pe_op op_add_str (pe_op op_add_str (pe_op op_add_str (pe_op op_add_str (pv 3) (pe_call (ok__law_blank T) (hr.mono (by decide)) (by rfl) T.g__law_blank T.d__law_blank.F.kp T.d__law_blank.b .nil pass0 (pa_cons (pv 0) pa_nil))) pe_str) (pe_call (ok__law_blank T) (hr.mono (by decide)) (by rfl) T.g__law_blank T.d__law_blank.F.kp T.d__law_blank.b .nil pass0 (pa_cons (pv 0) pa_nil))) (pe_ix (ix_tupK (K := K) rfl) (pe_bm0 PySem.F.plainAttrs_list PySem.F.slot_list_pop PySem.F.type_list_pop mt_pop (pv 2)) pe_int (fun _ _ => rfl))) (pe_call (ok__law_blank T) (hr.mono (by decide)) (by rfl) T.g__law_blank T.d__law_blank.F.kp T.d__law_blank.b .nil pass0 (pa_cons (pv 0) pa_nil))) pe_str) (pa_cons pe_int pa_nil))))) (pss_one (ps_set (i := 7) sc__law_loose.nd rfl (Or.inl rfl) (pe_tup (pa_cons (pv 3) (pa_cons pe_int pa_nil))))))))))))
      (pss_one (ps_expr (pe_bm PySem.F.plainAttrs_list PySem.F.slot_list_append PySem.F.type_list_append mt_append (pv 2) (pa_cons (pe_ifExp (pt_cmpR op_eq (pe_call (ok__law_draw T) (hr.mono (by decide)) (by rfl) T.g__law_draw T.d__law_draw.F.kp T.d__law_draw.b .nil pass0 (pa_cons (pv 0) (pa_cons pe_int pa_nil))) pe_int (nomark _)) (pe_tup (pa_cons (pe_op op_add_str (pe_op op_add_str (pe_op op_add_str pe_str (pe_call (ok__law_blank T) (hr.mono (by decide)) (by rfl) T.g__law_blank T.d__law_blank.F.kp T.d__law_blank.b .nil pass0 (pa_cons (pv 0) pa_nil))) (pe_ix (ix_tupK (K := K) rfl) (pv 7) pe_int (fun _ _ => rfl))) pe_str) (pa_cons pe_int pa_nil))) (pv 7)) pa_nil))))))
      (pss_one (ps_ret (pe_op op_add_str (pe_op op_add_str (pe_call (ok__law_blank T) (hr.mono (by decide)) (by rfl) T.g__law_blank T.d__law_blank.F.kp T.d__law_blank.b .nil pass0 (pa_cons (pv 0) pa_nil)) (pe_ix (ix_tupK (K := K) rfl) (pe_ix (ix_listK (K := K) rfl) (pv 2) pe_int (fun _ _ => rfl)) pe_int (fun _ _ => rfl))) (pe_call (ok__law_blank T) (hr.mono (by decide)) (by rfl) T.g__law_blank T.d__law_blank.F.kp T.d__law_blank.b .nil pass0 (pa_cons (pv 0) pa_nil))))))), ?_⟩
    have hd : okd t := ⟨hok, by omega⟩
    refine g_nil (GM.refl h1 h2) fun p hpn g0 => ?_
    dsimp only
    have hop : p ≠ o := fun z => by
      obtain ⟨c, cs, i, r, l, m, n, ho, _⟩ := J
      rw [z, h2 _ _ ho] at hpn; cases hpn
    refine g_for (K := Hk) (r := rWd) (e_F (e_var hv rfl)) g0 (fun rest F M' σ' => ∃ (L : List Tr) (a b c d e : Option V), σ' = [some (.ref o), some v, some (.ref p), a, b, c, d, e] ∧ Stk t rest L ∧ OnS rLo M' F p L ∧ Jar F M' o ∧ (∀ a, a ≠ o → a ≠ p → M' a = M a) ∧ ∃ dn, pst t = dn ++ rest)
      (fun F e => ⟨[], none, none, none, none, none, rfl, .start hd, ⟨[], upd_same, .nil⟩, (J.m (upd_ne (Ne.symm hop))).up e, fun a _ h => upd_ne h, [], rfl⟩) (fun l F F' M' σ' e ⟨L, a, b, c, d, e', i1, i2, i3, i4, i5⟩ => ⟨L, a, b, c, d, e', i1, i2, i3.up e, i4.up e, i5⟩) ?_ ?_
    · rintro F0 e0 st rest sv F M' σ' H' ⟨L, a, b, c, d, e, rfl, hk, hs, J', hm', dn, jj⟩ g ef hst
      cases hst
      show tIfS _ _ _ _ _ _
      dsimp only [List.set]
      have jj2 : ∃ dn', pst t = dn' ++ rest := ⟨dn ++ [st], by rw [jj]; simp⟩
      have hL : L.length ≤ 10000 := by have := hk.len; omega
      have hos := hk.os st List.mem_cons_self
      have hwl := w_len hos
      have k0 : ∀ {F b c d e}, E rW (tVar 3) [some (.ref o), some v, some (.ref p), some (.str (S st.w)), b, c, d, e] F st.w := e_var rfl rfl
      have lk : Lk Hk H M M F F H' M' o p L := ⟨g, Ex.refl _, J', hm', hs⟩
      have szu : ∀ {u}, u ∈ L → size u ≤ 120 := fun hu => by have := hk.mem hu; omega
      refine g_if ((t_test (e_inT (l := [[43], [45], [42], [47]]) k0 (ea_w (e_w rfl) (ea_w (e_w rfl) (ea_w (e_w rfl) (ea_w (e_w rfl) ea_w0)))) (by decide))).as (w_opr hos.1)) g (fun c1 H1 g1 => ?_) (fun c1 H1 g1 => ?_)
      · cases st with
        | op q2 =>
          obtain ⟨rr, ll, L, rfl, hul, hur, hk2⟩ := hk.op
          have lr : size rr ≤ 120 := szu List.mem_cons_self
          have ll' : size ll ≤ 120 := szu (List.mem_cons_of_mem _ List.mem_cons_self)
          have lo' : size (.op q2 ll rr) ≤ 120 := by have := hk2.mem List.mem_cons_self; omega
          refine g_set (r := rInt) (x := (((if q2.low then 1 else 2 : Nat)) : Int)) (e_if ((t_test (e_inT (l := [[43], [45]]) (e_var (r := rW) (x := [q2.c]) rfl rfl) (ea_w (e_w rfl) (ea_w (e_w rfl) ea_w0)) (by decide))).as (show _ = q2.low by cases q2 <;> decide)) (fun c5 => ?_) (fun c5 => ?_)) g1 fun iv H7 F7 g7 e7 hiv => ?_
          · rw [c5]; exact e_int
          · rw [c5]; exact e_int
          cases hiv
          dsimp only [List.set]
          have lk7 : Lk Hk H M M F F7 H7 M' o p (rr :: ll :: L) := ⟨g7, e7, J'.up e7, hm', hs.up e7⟩
          refine lk7.held (K := K) hop rfl (n := (if q2.low then 1 else 2) + 1) (by split <;> decide) lr (e_i0 (f := fun i j => i + j) (e_var (x := (((if q2.low then 1 else 2 : Nat)) : Int)) rfl rfl) e_int) _ fun rv H8 ⟨F8, M8, xr, lr8, z8, hrv, lk8, e8, hlr, hlo8, hxl8⟩ => ?_
          cases hrv
          dsimp only [List.set]
          refine lk8.held (K := K) hop rfl (n := (if q2.low then 1 else 2)) (by split <;> decide) ll' (e_var (x := (((if q2.low then 1 else 2 : Nat)) : Int)) rfl rfl) _ fun lv H9 ⟨F9, M9, xl, ll9, z9, hlv, lk9, e9, hll, hlo9, hxl9⟩ => ?_
          cases hlv
          dsimp only [List.set]
          refine lk9.asg hop (j_pk (j_cX (n := 3700) (j_cB (n := 3650) (i := 0) rfl (j_cX (n := 3610) (y := [q2.c]) (j_cB (n := 3604) (i := 0) rfl (j_v (x := xl) (e_var rfl rfl)) ?_ (by decide)) ?_ (e_var rfl rfl) (by show 1 ≤ 5000; decide) (by decide)) ?_ (by decide)) ?_ (e_var (r := rW) (x := xr) rfl rfl) (by omega) (by decide)) (e_var (x := (((if q2.low then 1 else 2 : Nat)) : Int)) rfl rfl)) fun pv ⟨x, n⟩ H10 F10 M10 lk10 e10 hpv hpx => ?_
          · rintro _ rfl; exact hxl9
          · rintro _ ⟨_, b, rfl, hb, rfl⟩; have := hb.2; simp; omega
          · rintro _ ⟨_, ⟨_, b, rfl, hb, rfl⟩, rfl⟩; have := hb.2; simp; omega
          · rintro _ ⟨_, b', ⟨_, ⟨_, b, rfl, hb, rfl⟩, rfl⟩, hb', rfl⟩; have := hb.2; have := hb'.2; simp; omega
          obtain ⟨⟨_, ⟨_, b', ⟨_, ⟨xl, b, rfl, hb, rfl⟩, rfl⟩, hb', rfl⟩, hx⟩, hn⟩ := hpx
          dsimp only at hx hn
          subst hx; subst hn
          obtain ⟨pa, rfl, hpa⟩ := hpv
          dsimp only [List.set]
          have hLo : Lo (.op q2 ll rr) (if q2.low then 1 else 2) false (xl ++ b ++ [q2.c] ++ b' ++ xr) := by
            cases hq : q2.low with
            | true => rw [hq] at hlr hll; exact Lo.low hq hlo9 hlo8 hlr hb hb'
            | false => rw [hq] at hlr hll; exact Lo.high hq hlo9 hll hlo8 hlr hb hb'
          refine lk10.tail (K := K) hop rfl rfl rfl (by simp at hL; omega) hpa hLo lo' fun H11 F11 M11 lk11 => ?_
          exact ⟨F11, M11, lk11.g, ef.trans lk11.e, _, _, _, _, _, _, rfl, hk2, lk11.s, lk11.j, lk11.m, jj2⟩
        | _ => cases c1
      have lk1 : Lk Hk H M M F F H1 M' o p L := ⟨g1, Ex.refl _, J', hm', hs⟩
      refine g_if (t_test ((e_eqW (b := [126]) k0 (e_w rfl)).as (w_neg hos.1))) g1 (fun c2 H2 g2 => ?_) (fun c2 H2 g2 => ?_)
      · cases st with
        | neg =>
          obtain ⟨u, L, rfl, hu, hk2⟩ := hk.neg
          have hus := szu List.mem_cons_self
          have hns : size (.neg u) ≤ 120 := by have := hk2.mem List.mem_cons_self; omega
          have lk2 : Lk Hk H M M F F H2 M' o p (u :: L) := ⟨g2, Ex.refl _, J', hm', hs⟩
          refine negA (R := fun v H3 => ∃ b F3 M3, v = .str (S ([45] ++ b)) ∧ Bl b ∧ Lk Hk H M M F F3 H3 M3 o p (u :: L)) (R2 := fun v w H4 => ∃ b F4 M4 x lv z, v = .str (S ([45] ++ b)) ∧ Bl b ∧ w = .str (S x) ∧ Lk Hk H M M F F4 H4 M4 o p L ∧ 2 ≤ lv ∧ Lo u lv z x ∧ x.length ≤ 3604) (fun Q q => ?_) (fun v3 H3 ⟨b3, F3, M3, hv3, hb3, lk3⟩ Q q => ?_) (fun v3 w3 H4 ⟨b3, F4, M4, x, lv, z, hv3, hb3, hw3, lk4, hlv, hlo, hxl⟩ => ?_)
          · refine lk2.ej hop (j_cB (n := 1) (i := 0) rfl (j_w (a := [45]) rfl) (by rintro _ rfl; exact Nat.le_refl _) (by decide)) Q fun v3 x3 H3 F3 M3 lk3 e3 hv3 ⟨_, b3, hx, hb3, h3⟩ => q v3 H3 ⟨b3, F3, M3, ?_, hb3, lk3⟩
            subst hx; subst h3; exact hv3
          · exact lk3.held (K := K) hop rfl (n := 2) (by decide) hus e_int Q fun w H4 ⟨F4, M4, x, lv, z, hw, lk4, e4, hlv, hlo, hxl⟩ => q w H4 ⟨b3, F4, M4, x, lv, z, hv3, hb3, hw, lk4, hlv, hlo, hxl⟩
          · cases hv3; cases hw3
            have := hb3.2
            refine lk4.asg hop (j_pk (j_v (x := [45] ++ b3 ++ x) (e_catW (e_w (a := [45] ++ b3) rfl) (e_w rfl) (by simp; omega))) (e_int (n := 1))) fun pv ⟨y, n⟩ H5 F5 M5 lk5 e5 hpv ⟨hy, hn⟩ => ?_
            dsimp only at hy hn
            subst hy; subst hn
            obtain ⟨pa, rfl, hpa⟩ := hpv
            dsimp only [List.set]
            refine lk5.tail (K := K) (lv := 1) hop rfl rfl rfl (by simp at hL; omega) hpa (Lo.neg hlo hlv hb3) hns fun H11 F11 M11 lk11 => ?_
            exact ⟨F11, M11, lk11.g, ef.trans lk11.e, _, _, _, _, _, _, rfl, hk2, lk11.s, lk11.j, lk11.m, jj2⟩
        | _ => cases c2
      obtain ⟨c0, r0, hw0, hp0⟩ := w_hd hos.1
      refine g_if (b := tPow st) (t_test ((e_eqW (a := [c0]) (b := [94]) (e_atW (k := 0) k0 e_int (Int.le_refl _) (by rw [hw0]; rfl) (by omega)) (e_w rfl)).as (by rw [← hp0]; simp))) g2 (fun c3 H3 g3 => ?_) (fun c3 H3 g3 => ?_)
      · cases st with
        | pow d =>
          obtain ⟨hd9, u, L, rfl, hu, hk2⟩ := hk.pow
          have hus := szu List.mem_cons_self
          have hns : size (.pow u d) ≤ 120 := by have := hk2.mem List.mem_cons_self; omega
          have lk3 : Lk Hk H M M F F H3 M' o p (u :: L) := ⟨g3, Ex.refl _, J', hm', hs⟩
          refine pow4A (R := fun v H4 => ∃ F4 M4 x lv z, v = .str (S x) ∧ Lk Hk H M M F F4 H4 M4 o p L ∧ 4 ≤ lv ∧ Lo u lv z x ∧ x.length ≤ 3604) (fun Q q => ?_) (fun v4 H4 ⟨F4, M4, x, lv, z, hv4, lk4, hlv, hlo, hxl⟩ => ?_)
          · exact lk3.held (K := K) hop rfl (n := 4) (by decide) hus e_int Q fun w H4 ⟨F4, M4, x, lv, z, hw, lk4, e4, hlv, hlo, hxl⟩ => q w H4 ⟨F4, M4, x, lv, z, hw, lk4, hlv, hlo, hxl⟩
          · cases hv4
            have esl : E rW (tSl rSlS (tVar 3) (tPart (tC (.int 1))) tNoPart) [some (.ref o), some v, some (.ref p), some (.str (S (Stp.pow d).w)), b, c, ‹Option V›, e] F4 [48 + d] := (e_sliceW (x := [94, 48 + d]) (lo := some ((1 : Nat) : Int)) (hi := none) (e_var rfl rfl) (eo_some e_int) eo_none (by simp)).as (by rw [cutL_from]; rfl)
            refine lk4.asg hop (j_pk (j_cX (n := 3700) (j_cB (n := 3650) (i := 0) rfl (j_cX (n := 3610) (y := [94]) (j_cB (n := 3604) (i := 0) rfl (j_w (a := x) rfl) ?_ (by decide)) ?_ (e_w rfl) (by show 1 ≤ 5000; decide) (by decide)) ?_ (by decide)) ?_ esl (by show 1 ≤ 5000; decide) (by decide)) (e_int (n := 3))) fun pv ⟨y, n⟩ H10 F10 M10 lk10 e10 hpv hpx => ?_
            · rintro _ rfl; exact hxl
            · rintro _ ⟨_, b, rfl, hb, rfl⟩; have := hb.2; simp; omega
            · rintro _ ⟨_, ⟨_, b, rfl, hb, rfl⟩, rfl⟩; have := hb.2; simp; omega
            · rintro _ ⟨_, b', ⟨_, ⟨_, b, rfl, hb, rfl⟩, rfl⟩, hb', rfl⟩; have := hb.2; have := hb'.2; simp; omega
            obtain ⟨⟨_, ⟨_, b', ⟨_, ⟨_, b, rfl, hb, rfl⟩, rfl⟩, hb', rfl⟩, hx⟩, hn⟩ := hpx
            dsimp only at hx hn
            subst hx; subst hn
            obtain ⟨pa, rfl, hpa⟩ := hpv
            dsimp only [List.set]
            have h4 : lv = 4 := by have := (lo_lv hlo).2; omega
            subst h4
            refine lk10.tail (K := K) (lv := 3) hop rfl rfl rfl (by simp at hL; omega) hpa (Lo.pow hd9 hlo hb hb') hns fun H11 F11 M11 lk11 => ?_
            exact ⟨F11, M11, lk11.g, ef.trans lk11.e, _, _, _, _, _, _, rfl, hk2, lk11.s, lk11.j, lk11.m, jj2⟩
        | _ => cases c3
      refine g_if (t_b ((e_isCall T k0).as (w_call hos.1))) g3 (fun c4 H4 g4 => ?_) (fun c4 H4 g4 => ?_)
      · cases st with
        | call s0 =>
          obtain ⟨hc, u, L, rfl, hu, hk2⟩ := hk.call
          have hus := szu List.mem_cons_self
          have hns : size (.call s0 u) ≤ 120 := by have := hk2.mem List.mem_cons_self; omega
          have hs4 := call_len hc
          have lk4 : Lk Hk H M M F F H4 M' o p (u :: L) := ⟨g4, Ex.refl _, J', hm', hs⟩
          refine callA (R := fun v H5 => ∃ b b' F5 M5, v = .str (S (s0 ++ b ++ [40] ++ b')) ∧ Bl b ∧ Bl b' ∧ Lk Hk H M M F F5 H5 M5 o p (u :: L)) (R2 := fun v w H6 => ∃ b b' F6 M6 x lv z, v = .str (S (s0 ++ b ++ [40] ++ b')) ∧ Bl b ∧ Bl b' ∧ w = .str (S x) ∧ Lk Hk H M M F F6 H6 M6 o p L ∧ Lo u lv z x ∧ x.length ≤ 3604) (fun Q q => ?_) (fun v5 H5 ⟨b5, b6, F5, M5, hv5, hb5, hb6, lk5⟩ Q q => ?_) (fun v5 w5 H6 ⟨b5, b6, F6, M6, x, lv, z, hv5, hb5, hb6, hw5, lk6, hlo, hxl⟩ => ?_)
          · refine lk4.ej hop (j_cB (n := 10) (i := 0) rfl (j_cX (n := 6) (y := [40]) (j_cB (n := 4) (i := 0) rfl (j_v (x := s0) (e_var rfl rfl)) ?_ (by decide)) ?_ (e_w rfl) (by show 1 ≤ 5000; decide) (by decide)) ?_ (by decide)) Q fun v3 x3 H3 F3 M3 lk3 e3 hv3 ⟨_, b', ⟨_, ⟨_, b, hx, hb, h5⟩, h4⟩, hb', h3⟩ => q v3 H3 ⟨b, b', F3, M3, ?_, hb, hb', lk3⟩
            · rintro _ rfl; exact hs4
            · rintro _ ⟨_, b, rfl, hb, rfl⟩; have := hb.2; simp; omega
            · rintro _ ⟨_, ⟨_, b, rfl, hb, rfl⟩, rfl⟩; have := hb.2; simp; omega
            · subst hx; subst h5; subst h4; subst h3; exact hv3
          · exact lk5.pop0 (K := K) hop rfl hus Q fun w H6 ⟨F6, M6, x, lv, z, hw, lk6, e6, hlo, hxl⟩ => q w H6 ⟨b5, b6, F6, M6, x, lv, z, hv5, hb5, hb6, hw, lk6, hlo, hxl⟩
          · cases hv5; cases hw5
            have := hb5.2
            have := hb6.2
            refine lk6.asg hop (j_pk (j_cX (n := 3650) (y := [41]) (j_cB (n := 3640) (i := 0) rfl (j_v (x := s0 ++ b5 ++ [40] ++ b6 ++ x) (e_catW (e_w (a := s0 ++ b5 ++ [40] ++ b6) rfl) (e_w rfl) (by simp; omega))) ?_ (by decide)) ?_ (e_w rfl) (by show 1 ≤ 5000; decide) (by decide)) (e_int (n := 4))) fun pv ⟨y, n⟩ H10 F10 M10 lk10 e10 hpv hpx => ?_
            · rintro _ rfl; simp; omega
            · rintro _ ⟨_, b, rfl, hb, rfl⟩; have := hb.2; simp; omega
            obtain ⟨⟨_, ⟨_, b7, rfl, hb7, rfl⟩, hx⟩, hn⟩ := hpx
            dsimp only at hx hn
            subst hx; subst hn
            obtain ⟨pa, rfl, hpa⟩ := hpv
            dsimp only [List.set]
            refine lk10.tail (K := K) (lv := 4) hop rfl rfl rfl (by simp at hL; omega) hpa (Lo.call hc hlo hb5 hb6 hb7) hns fun H11 F11 M11 lk11 => ?_
            exact ⟨F11, M11, lk11.g, ef.trans lk11.e, _, _, _, _, _, _, rfl, hk2, lk11.s, lk11.j, lk11.m, jj2⟩
        | _ => cases c4
      · have lk4 : Lk Hk H M M F F H4 M' o p L := ⟨g4, Ex.refl _, J', hm', hs⟩
        have leaf : ∀ u, Lo u 4 false st.w → size u ≤ 120 → Stk t rest (u :: L) → tAsg (tTup (tCons (tVar 3) (tCons (tC (.int 4)) tNil))) (gName 7) { nx := fun σ Hh => tDrop (tBM K "list" rAppend (tVar 2) (tCons (tIf (tTest (tOp rEq (tCall (spJ rInt dPre rInt dPost) [] E0 (tCons (tVar 0) (tCons (tC (.int 6)) tNil))) (tC (.int 0)))) (tTup (tCons (tOp tCatS (tOp tCatS (tOp tCatS (tC (.str "(")) (tBl 0)) (tOp (rIxT K) (tVar 7) (tC (.int 0)))) (tC (.str ")"))) (tCons (tC (.int 4)) tNil))) (tVar 7)) tNil)) { nx := fun σ2 H2 => ∃ F2 M2, GM Hk H M F2 H2 M2 ∧ Ex F0 F2 ∧ ∃ (L : List Tr) (a b c d e : Option V), σ2 = [some (.ref o), some v, some (.ref p), a, b, c, d, e] ∧ Stk t rest L ∧ OnS rLo M2 F2 p L ∧ Jar F2 M2 o ∧ (∀ a, a ≠ o → a ≠ p → M2 a = M a) ∧ ∃ dn, pst t = dn ++ rest, rt := Q } σ Hh, rt := Q } [some (.ref o), some v, some (.ref p), some (.str (S st.w)), b, c, d, e] H4 := fun u hLo hsz hk2 => by
          refine lk4.asg hop (j_pk (j_v k0) (e_int (n := 4))) fun pv ⟨y, n⟩ H5 F5 M5 lk5 e5 hpv ⟨hy, hn⟩ => ?_
          dsimp only at hy hn
          subst hy; subst hn
          obtain ⟨pa, rfl, hpa⟩ := hpv
          dsimp only [List.set]
          refine lk5.tail (K := K) (lv := 4) hop rfl rfl rfl hL hpa hLo hsz fun H11 F11 M11 lk11 => ?_
          exact ⟨F11, M11, lk11.g, ef.trans lk11.e, _, _, _, _, _, _, rfl, hk2, lk11.s, lk11.j, lk11.m, jj2⟩
        cases st with
        | num z =>
          have h2 := hk.num.2
          have hb : z.length ≤ 15 := by
            have := num_digs t z (by rw [jj]; simp)
            omega
          exact leaf (.num z) (.num hk.num.1.1 hb) (by show 1 ≤ 120; decide) h2
        | name z => exact leaf (.name z) (.name hk.name.1) (by show 1 ≤ 120; decide) hk.name.2
        | neg => cases c2
        | pow z => cases c3
        | call z => cases c4
        | op q => cases c1
    · rintro F M' σ' H' ⟨L, a, b, c, d, e, rfl, hk, hs, J', hm', dn, jj⟩ g ef
      have := hk.done
      subst this
      obtain ⟨vs, hm, hp⟩ := hs
      cases hp with
      | cons hp t2 =>
        cases t2
        have hpo : Hk p = none := (h1.trans sub_le).free hpn
        have mp : M p = none := h2.free hpn
        have g3 := g.give hm (by rw [sub_none mp]; exact hpn)
        have e3 : Ex F (upd F p (.lst [‹V›])) := Ex.new (g.fm hm)
        obtain ⟨x, lv, z, hpk, hlo⟩ := hp
        have hxl := lo_l hlo (by omega)
        have J3 : Jar (upd F p (.lst [‹V›])) (Y.del M' p) o := (J'.m (Y.del_ne (Ne.symm hop))).up e3
        have ex0 : E rW (tOp (rIxT K) (tOp (rIxL K) (tVar 2) (tC (.int 0))) (tC (.int 0))) [some (.ref o), some v, some (.ref p), a, b, c, d, e] (upd F p (.lst [‹V›])) x := by
          have : E (rLst rPk) (tVar 2) [some (.ref o), some v, some (.ref p), a, b, c, d, e] (upd F p (.lst [‹V›])) [(x, (lv : Int))] := e_var ⟨p, _, rfl, upd_same, .cons (up (r := rPk) e3 hpk) .nil⟩ rfl
          exact e_pk0 (e_at (Kf := K) (k := 0) this e_int (Int.le_refl _) rfl)
        refine (j_cB (n := 3700) (i := 0) rfl (j_catW (n := 2) (m := 3604) (Pd := fun y => y = x) (j_bl (i := 0) rfl) (EJ.of ex0 rfl) (fun _ h => h.2) (fun _ h => by subst h; exact hxl) (by decide)) ?_ (by decide)) _ _ _ _ _ _ g3 (Ex.refl _) J3 Q fun v5 y H5 F5 M5 g5 e5 J5 hm5 hv5 hy => ?_
        · rintro _ ⟨b1, _, hb1, rfl, rfl⟩; have := hb1.2; simp; omega
        · obtain ⟨_, b2, ⟨b1, _, hb1, rfl, rfl⟩, hb2, rfl⟩ := hy
          refine q v5 _ H5 F5 M5 g5 J5 (fun a ha => ?_) hv5 (lo_tex hlo hb1 hb2)
          rw [hm5 a ha]
          by_cases hap : a = p
          · subst hap; rw [Y.del_same, mp]
          · rw [Y.del_ne hap, hm' a ha hap]
end
end F1

set_option Elab.async false
set_option linter.all false
set_option autoImplicit false
set_option maxRecDepth 100000
set_option maxHeartbeats 1000000
/-! # The law's reader -/
namespace F1
open PySem L2 Y
open Pl hiding Sp Ss PA PB RA RW RP RS
abbrev wl2 (ws : List W) : List W := ws ++ [[46], [46]]
/-- the state of the reader -/
structure PSt (F M : Hp) (s tl fl : Addr) (ws : List W) (i : Nat) (acc : List Stp) : Prop where
  ms : M s = some (.lst [.ref tl, .int (i : Int), .ref fl])
  mt : F tl = some (.lst (lw (wl2 ws)))
  mf : M fl = some (.lst (acc.map fun x => V.str (S x.w)))
  mn : s ≠ fl
structure PPre (ws : List W) (i : Nat) (acc : List Stp) (n : Nat) : Prop where
  pi : i ≤ ws.length
  pa : acc.length ≤ i
  pl : ws.length ≤ 30000
  pw : ∀ u ∈ ws, Wd u ∧ u.length ≤ 30000
  pm : mx (ws.drop i) < n
def spPa (pa : Pa) (n : Nat) (hd : List W → Prop) : Sp := fun vs H Q _ => ∃ Hk M s tl fl ws i acc, vs = [.ref s] ∧ Ex Hk (sub H M) ∧ Ex M H ∧ PSt Hk M s tl fl ws i acc ∧ PPre ws i acc n ∧ hd (ws.drop i) ∧
  (∀ t j H' F M', pa (ws.drop i) = some (t, ws.drop j) → i ≤ j → j ≤ ws.length → (pst t).length ≤ j - i → GM Hk H M F H' M' → PSt F M' s tl fl ws j (acc ++ pst t) → (∀ a, a ≠ s → a ≠ fl → M' a = M a) → Q (.bl true) H') ∧
  (pa (ws.drop i) = none → ∀ H' F M', GM Hk H M F H' M' → (∀ a, a ≠ s → a ≠ fl → M' a = M a) → Q (.bl false) H')
abbrev anyW : List W → Prop := fun _ => True
abbrev opnW : List W → Prop := fun ts => ts.head? = some [40]
section
variable {F F' M : Hp} {s tl fl : Addr} {ws : List W} {i : Nat} {acc : List Stp}
theorem PSt.up (h : PSt F M s tl fl ws i acc) (e : Ex F F') : PSt F' M s tl fl ws i acc := ⟨h.ms, e _ _ h.mt, h.mf, h.mn⟩
theorem PSt.to (h : PSt F M s tl fl ws i acc) (j : Nat) : PSt F (upd M s (.lst [.ref tl, .int (j : Int), .ref fl])) s tl fl ws j acc := ⟨upd_same, h.mt, by rw [upd_ne (Ne.symm h.mn)]; exact h.mf, h.mn⟩
theorem PSt.add (h : PSt F M s tl fl ws i acc) (x : Stp) : PSt F (upd M fl (.lst ((acc.map fun x => V.str (S x.w)) ++ [.str (S x.w)]))) s tl fl ws i (acc ++ [x]) := ⟨by rw [upd_ne h.mn]; exact h.ms, h.mt, by rw [upd_same]; simp, h.mn⟩
end
section
variable {P : Program} {w : World} {K : PySem.W.Frag} {mg : Str → Option Value} {base : Heap}
section
variable {σ : L2.St} {F M H K0 H0 M0 : Hp} {s tl fl : Addr} {ws : List W} {i : Nat} {acc : List Stp} {te ti : TE} {D : Ends} {z : Nat}
/-- the word at a place -/
theorem e_tokI {j : Nat} (hz : σ[z]? = some (some (.ref s))) (h : PSt F M s tl fl ws i acc) (g : GM K0 H0 M0 F H M) (hj : j ≤ ws.length + 1) (hi : E rInt ti σ (jn F M) (j : Int)) :
    E rW (tOp (rIxL K) (tOp (rIxL K) (tVar z) (tC (.int 0))) ti) σ (jn F M) (tok ws j) := fun H1 e Q q =>
  ⟨.ref s, hz, s, _, _, _, rfl, rfl, sq_of (e _ _ (g.jr h.ms)), rfl, hi H1 e _ fun v H2 F2 g2 hv => by
    cases hv
    refine ⟨tl, _, (j : Int), V.str (S (tok ws j)), rfl, rfl, sq_of (g2.f _ _ (g2.k _ _ (jn_l h.mt))), atI_nat ?_, q _ H2 F2 g2 rfl⟩
    unfold tok
    have hl : j < (ws ++ [[46], [46]]).length := by simp; omega
    rw [List.getElem?_map, List.getD_eq_getElem?_getD, List.getElem?_eq_getElem hl]; rfl⟩
theorem e_at1 (hz : σ[z]? = some (some (.ref s))) (h : PSt F M s tl fl ws i acc) (g : GM K0 H0 M0 F H M) : E rInt (tOp (rIxL K) (tVar z) (tC (.int 1))) σ (jn F M) (i : Int) := fun H1 e Q q =>
  ⟨.ref s, hz, s, _, _, _, rfl, rfl, sq_of (e _ _ (g.jr h.ms)), rfl, q _ H1 _ (Grow.refl e) rfl⟩
theorem e_tok (hz : σ[z]? = some (some (.ref s))) (h : PSt F M s tl fl ws i acc) (g : GM K0 H0 M0 F H M) (hi : i ≤ ws.length + 1) : E rW (tOp (rIxL K) (tOp (rIxL K) (tVar z) (tC (.int 0))) (tOp (rIxL K) (tVar z) (tC (.int 1)))) σ (jn F M) (tok ws i) := e_tokI hz h g hi (e_at1 hz h g)
/-- state[1] = .. -/
theorem g_adv {j : Nat} (hz : σ[z]? = some (some (.ref s))) (h : PSt F M s tl fl ws i acc) (g : GM K0 H0 M0 F H M) (he : E rInt te σ (jn F M) (j : Int)) (k : ∀ H2 M2, GM K0 H0 M0 F H2 M2 → PSt F M2 s tl fl ws j acc → (∀ a, a ≠ s → M2 a = M a) → D.nx σ H2) :
    tAsg te (gSub (tVar z) (tC (.int 1)) rSetL) D σ H := g_eM he g fun v H2 g2 hv => by
  cases hv
  exact g_put (H2 := H2) (k := 1) (n := 3) (fun Q q => ⟨_, hz, q⟩) (fun Q q => q) h.ms rfl (by decide) g2 fun g3 => k _ _ g3 (h.to j) fun a ha => upd_ne ha
/-- state[2].append(..) -/
theorem g_add {x : Stp} (hz : σ[z]? = some (some (.ref s))) (h : PSt F M s tl fl ws i acc) (g : GM K0 H0 M0 F H M) (hl : acc.length ≤ 60000) (he : E rW te σ F x.w) (k : ∀ H2 F2 M2, GM K0 H0 M0 F2 H2 M2 → Ex F F2 → PSt F2 M2 s tl fl ws i (acc ++ [x]) → (∀ a, a ≠ fl → M2 a = M a) → D.nx σ H2) :
    tDrop (tBM K "list" rAppend (tOp (rIxL K) (tVar z) (tC (.int 2))) (tCons te tNil)) D σ H :=
  g_appE (o := fl) (fun Q q => ⟨_, hz, s, _, _, _, rfl, rfl, sq_of (g.m _ _ h.ms), rfl, q⟩) h.mf g (by rw [List.length_map]; omega) he fun v H2 F2 g2 e hv => by
    cases hv
    exact k _ F2 _ g2 e ((h.up e).add x) fun a ha => upd_ne ha
end
theorem asc_tok {ws : List W} {i : Nat} (h : ∀ u ∈ ws, Wd u ∧ u.length ≤ 30000) (hi : i ≤ ws.length + 1) : asc (tok ws i) ∧ (tok ws i).length ≤ 30000 := by
  by_cases c : i < ws.length
  · rw [(tok_in c).1]
    have := h _ (List.getElem_mem c)
    exact ⟨fun d hd => by have := this.1.lt d hd; omega, this.2⟩
  · rw [(tok_out (by omega) hi).1]
    exact ⟨fun d hd => by cases List.mem_singleton.mp hd; omega, by decide⟩
theorem FnOk.never {CX : CXT} {f : Addr} {fd : FuncData} {ps : List Str} : FnOk P w K mg base CX 0 f fd ps (fun _ _ _ _ => False) := ⟨fun _ _ _ _ h => h.elim, fun _ _ _ _ _ _ _ _ _ _ _ _ _ h => h.elim⟩
theorem spPa_len {pa : Pa} {n : Nat} {hd : List W → Prop} (vs : List V) (H : Hp) (Q : VK) (Ew : XK) (h : spPa pa n hd vs H Q Ew) : vs.length = 1 := by
  obtain ⟨_, _, _, _, _, _, _, _, rfl, _⟩ := h; rfl
/-- a call of a reader -/
theorem c_pa {pa : Pa} {n : Nat} {hd : List W → Prop} {σ : L2.St} {F M H K0 H0 M0 : Hp} {s tl fl : Addr} {ws : List W} {i z : Nat} {acc : List Stp} {Ew : XK} {Q : VK} (hz : σ[z]? = some (some (.ref s))) (h : PSt F M s tl fl ws i acc) (g : GM K0 H0 M0 F H M) (hp : PPre ws i acc n) (hh : hd (ws.drop i))
    (q1 : ∀ t j H' F' M', pa (ws.drop i) = some (t, ws.drop j) → i ≤ j → j ≤ ws.length → (pst t).length ≤ j - i → GM K0 H0 M0 F' H' M' → Ex F F' → PSt F' M' s tl fl ws j (acc ++ pst t) → (∀ a, a ≠ s → a ≠ fl → M' a = M a) → Q (.bl true) H')
    (q2 : pa (ws.drop i) = none → ∀ H' F' M', GM K0 H0 M0 F' H' M' → (∀ a, a ≠ s → a ≠ fl → M' a = M a) → Q (.bl false) H') : tCall (spPa pa n hd) [] Ew (tCons (tVar z) tNil) σ H Q :=
  ⟨_, hz, F, M, s, tl, fl, ws, i, acc, rfl, g.g.f, g.m, h, hp, hh, fun t j H' F' M' e h1 h2 h3 gg => q1 t j H' F' M' e h1 h2 h3 (g.trans gg) gg.k, fun e H' F' M' gg => q2 e H' F' M' (g.trans gg)⟩
/-- the reader of an atom -/
theorem atom_ok (T : Txt w K mg) {k n : Nat} {spA : Sp} {ka : Nat} {hd : List W → Prop} (ok__law_parse_sum : FnOk P w K mg base CX0 (k + 2) T.d__law_parse_sum.a T.d__law_parse_sum.fd ["state"] (spPa (sumN n) n anyW))
    (ok__law_parse_atom : FnOk P w K mg base CX0 ka T.d__law_parse_atom.a T.d__law_parse_atom.fd ["state"] spA) (hka : ka ≤ k + 2)
    (hA : (∀ ts, hd ts → opnW ts) ∨ spA = spPa (pAtom (sumN n)) (n + 1) opnW) : FnOk P w K mg base CX0 (k + 3) T.d__law_parse_atom.a T.d__law_parse_atom.fd ["state"] (spPa (pAtom (sumN n)) (n + 1) hd) := by
  refine T.d__law_parse_atom.F.ok sc__law_parse_atom spPa_len (fun cdv A outer s0 H vs Q Ew hr h => ?_)
  obtain ⟨Hk, M, s, tl, fl, ws, i, acc, rfl, h1, h2, ps, pp, hh, q1, q2⟩ := h
  refine ⟨_, (pss_cons (ps_set (i := 1) sc__law_parse_atom.nd rfl (Or.inl rfl) (pe_ix (ix_listK (K := K) rfl) (pe_ix (ix_listK (K := K) rfl) (pv 0) pe_int (fun _ _ => rfl)) (pe_ix (ix_listK (K := K) rfl) (pv 0) pe_int (fun _ _ => rfl)) (fun _ _ => rfl)))
      (pss_cons (ps_asg (pe_op op_add (pe_ix (ix_listK (K := K) rfl) (pv 0) pe_int (fun _ _ => rfl)) pe_int) (pg_sub (pv 0) pe_int set_list))
      (pss_cons (ps_if (pt_cmpR op_eq (pv 1) pe_str (nomark _)) (pss_cons (ps_if (PW.pt (pw_or (pt_not (pt_val (pe_call ok__law_parse_sum (hr.mono (by omega)) (by rfl) T.g__law_parse_sum T.d__law_parse_sum.F.kp T.d__law_parse_sum.b .nil pass0 (pa_cons (pv 0) pa_nil)))) (pw_or1 (pt_cmpR op_ne (pe_ix (ix_listK (K := K) rfl) (pe_ix (ix_listK (K := K) rfl) (pv 0) pe_int (fun _ _ => rfl)) (pe_ix (ix_listK (K := K) rfl) (pv 0) pe_int (fun _ _ => rfl)) (fun _ _ => rfl)) pe_str (nomark _))))) (pss_one (ps_ret pe_bl)) pss_nil)
      (pss_cons (ps_asg (pe_op op_add (pe_ix (ix_listK (K := K) rfl) (pv 0) pe_int (fun _ _ => rfl)) pe_int) (pg_sub (pv 0) pe_int set_list))
      (pss_one (ps_ret pe_bl)))) pss_nil)
      (pss_cons (ps_if (PW.pt (pw_and (pt_val (pe_call (ok__law_is_call T) (hr.mono (by omega)) (by rfl) T.g__law_is_call T.d__law_is_call.F.kp T.d__law_is_call.b .nil pass0 (pa_cons (pv 1) pa_nil))) (pw_and1 (pt_cmpR op_eq (pe_ix (ix_listK (K := K) rfl) (pe_ix (ix_listK (K := K) rfl) (pv 0) pe_int (fun _ _ => rfl)) (pe_ix (ix_listK (K := K) rfl) (pv 0) pe_int (fun _ _ => rfl)) (fun _ _ => rfl)) pe_str (nomark _))))) (pss_cons (ps_if (pt_not (pt_val (pe_call ok__law_parse_atom (hr.mono (by omega)) (by rfl) T.g__law_parse_atom T.d__law_parse_atom.F.kp T.d__law_parse_atom.b .nil pass0 (pa_cons (pv 0) pa_nil)))) (pss_one (ps_ret pe_bl)) pss_nil)
      (pss_cons (ps_expr (pe_bm PySem.F.plainAttrs_list PySem.F.slot_list_append PySem.F.type_list_append mt_append (pe_ix (ix_listK (K := K) rfl) (pv 0) pe_int (fun _ _ => rfl)) (pa_cons (pv 1) pa_nil)))
      (pss_one (ps_ret pe_bl)))) pss_nil)
      (pss_cons (ps_expr (pe_bm PySem.F.plainAttrs_list PySem.F.slot_list_append PySem.F.type_list_append mt_append (pe_ix (ix_listK (K := K) rfl) (pv 0) pe_int (fun _ _ => rfl)) (pa_cons (pv 1) pa_nil)))
      (pss_one (ps_ret (pe_or (pe_call (ok__law_figures T) (hr.mono (by omega)) (by rfl) T.g__law_figures T.d__law_figures.F.kp T.d__law_figures.b .nil pass0 (pa_cons (pv 1) pa_nil)) (pe_one (pe_call (ok__law_is_name T) (hr.mono (by omega)) (by rfl) T.g__law_is_name T.d__law_is_name.F.kp T.d__law_is_name.b .nil pass0 (pa_cons (pv 1) pa_nil))))))))))), ?_⟩
  have g0 := GM.refl h1 h2
  have hi1 : i ≤ ws.length + 1 := by have := pp.pi; omega
  have hai := pp.pa
  have hl3 := pp.pl
  obtain ⟨as1, al1⟩ := asc_tok pp.pw hi1
  refine g_setM (r := rW) (x := tok ws i) (e_tok rfl ps g0 hi1) g0 fun v H1 g1 hv => ?_
  cases hv
  dsimp only [List.set, L2.start]
  refine g_adv (j := i + 1) rfl ps g1 ((e_i0 (f := fun i j => i + j) (e_at1 rfl ps g1) (e_int (n := 1))).as (by omega)) fun H2 M2 g2 ps2 hm2 => ?_
  have v1 : ∀ {F : Hp}, E rW (tVar 1) [some (.ref s), some (.str (S (tok ws i)))] F (tok ws i) := e_var rfl rfl
  refine g_if (b := decide (tok ws i = [40])) (t_test (e_eqW v1 (e_w rfl))) g2 (fun c H3 g3 => ?_) (fun c H3 g3 => ?_)
  · have c := of_decide_eq_true c
    have hlt : i < ws.length := by
      rcases Nat.lt_or_ge i ws.length with z | z
      · exact z
      · rw [(tok_out z hi1).1] at c; cases c
    obtain ⟨e1, e2⟩ := tok_in hlt
    rw [e1] at c
    have hdr : ws.drop i = [40] :: ws.drop (i + 1) := by rw [e2, c]
    have hmx : mx (ws.drop (i + 1)) < n := by have := pp.pm; rw [hdr, mx_open] at this; omega
    show tCall _ _ _ _ _ _ _
    refine c_pa rfl ps2 g3 ⟨hlt, by omega, hl3, pp.pw, hmx⟩ trivial (fun t j H4 F4 M4 e hj1 hj2 hj3 g4 ef ps4 hm4 => ?_) (fun e H4 F4 M4 g4 hm4 => ?_)
    · refine ⟨true, rfl, ?_⟩
      dsimp only
      rw [if_neg (by decide)]
      refine g_t (b := !decide (tok ws j = [41])) (t_test (e_neW (e_tok rfl ps4 g4 (by omega)) (e_w rfl))) g4 fun H5 g5 => ?_
      by_cases cj : tok ws j = [41]
      · rw [decide_eq_true cj]
        rw [if_neg (by decide)]
        have hjl : j < ws.length := by
          rcases Nat.lt_or_ge j ws.length with z | z
          · exact z
          · rw [(tok_out z (by omega)).1] at cj; cases cj
        obtain ⟨e3, e4⟩ := tok_in hjl
        rw [e3] at cj
        rw [cj] at e4
        refine g_adv (j := j + 1) rfl ps4 g5 ((e_i0 (f := fun i j => i + j) (e_at1 rfl ps4 g5) (e_int (n := 1))).as (by omega)) fun H6 M6 g6 ps6 hm6 => ?_
        exact q1 t (j + 1) H6 F4 M6 (by rw [hdr]; exact br_some (by rw [e, e4])) (by omega) hjl (by omega) g6 ps6 fun a a1 a2 => (hm6 a a1).trans ((hm4 a a1 a2).trans (hm2 a a1))
      · rw [decide_eq_false cj]
        rw [if_pos (by decide)]
        refine q2 ?_ H5 F4 M4 g5 fun a a1 a2 => (hm4 a a1 a2).trans (hm2 a a1)
        cases hy : pAtom (sumN n) (ws.drop i) with
        | none => rfl
        | some p =>
          rw [hdr] at hy
          obtain ⟨r', e5⟩ := br_inv e hy
          exact absurd ((tok_eq (by omega) (by decide)).mpr (by rw [e5]; rfl)) cj
    · refine ⟨false, rfl, ?_⟩
      dsimp only
      rw [if_pos (by decide)]
      refine q2 (by rw [hdr]; exact br_none e) H4 F4 M4 g4 fun a a1 a2 => (hm4 a a1 a2).trans (hm2 a a1)
  · have c0 := of_decide_eq_false c
    unfold tNext
    dsimp only
    have noop : ¬ opnW (ws.drop i) := fun z => c0 ((tok_eq hi1 (by decide)).mpr z)
    refine g_if (b := isCall (tok ws i) && decide (tok ws (i + 1) = [40])) ?_ g3 (fun c H4 g4 => ?_) (fun c H4 g4 => ?_)
    · exact t_and (t_b (e_c1 v1 trivial)) fun _ => t_test (e_eqW (e_tok rfl ps2 g3 (by have := pp.pi; omega)) (e_w rfl))
    · rw [Bool.and_eq_true, decide_eq_true_eq] at c
      obtain ⟨cc, ct⟩ := c
      have hlt : i < ws.length := by
        rcases Nat.lt_or_ge i ws.length with z | z
        · exact z
        · rw [(tok_out z hi1).1] at cc; exact absurd cc (by decide)
      obtain ⟨e1, e2⟩ := tok_in hlt
      have hlt2 : i + 1 < ws.length := by
        rcases Nat.lt_or_ge (i + 1) ws.length with z | z
        · exact z
        · rw [(tok_out z (by omega)).1] at ct; cases ct
      obtain ⟨e3, e4⟩ := tok_in hlt2
      rw [e3] at ct
      rw [ct] at e4
      rw [e1] at cc
      have hmx : mx (ws.drop (i + 1)) < n + 1 := by have := pp.pm; rw [e2, mx_flat _ (call_ne cc).2.2.2.2] at this; exact this
      have hpa : pAtom (sumN n) (ws.drop i) = (pAtom (sumN n) (ws.drop (i + 1))).map fun p => (.call ws[i] p.1, p.2) := by rw [e2, e4]; exact atom_call cc
      rcases hA with hA | hA
      · exact absurd (hA _ hh) noop
      subst hA
      show tCall _ _ _ _ _ _ _
      refine c_pa rfl ps2 g4 ⟨by omega, by omega, hl3, pp.pw, hmx⟩ (by show _ = _; rw [e4]; rfl) (fun t j H5 F5 M5 e hj1 hj2 hj3 g5 ef ps5 hm5 => ?_) (fun e H5 F5 M5 g5 hm5 => ?_)
      · refine ⟨true, rfl, ?_⟩
        dsimp only
        rw [if_neg (by decide)]
        refine g_add (x := .call ws[i]) rfl ps5 g5 (by rw [List.length_append]; omega) (e_var (r := rW) (x := ws[i]) (by show V.str _ = V.str _; rw [e1]) rfl) fun H6 F6 M6 g6 e6 ps6 hm6 => ?_
        refine q1 (.call ws[i] t) j H6 F6 M6 (by rw [hpa, e]; rfl) (by omega) hj2 (by simp [pst]; omega) g6 (by rw [List.append_assoc] at ps6; exact ps6) fun a a1 a2 => (hm6 a a2).trans ((hm5 a a1 a2).trans (hm2 a a1))
      · refine ⟨false, rfl, ?_⟩
        dsimp only
        rw [if_pos (by decide)]
        refine q2 (by rw [hpa, e]; rfl) H5 F5 M5 g5 fun a a1 a2 => (hm5 a a1 a2).trans (hm2 a a1)
    · dsimp only
      obtain ⟨x, hx⟩ : ∃ x : Stp, x = if figs (tok ws i) then .num (tok ws i) else .name (tok ws i) := ⟨_, rfl⟩
      have hxw : x.w = tok ws i := by rw [hx]; split <;> rfl
      refine g_add (x := x) rfl ps2 g4 (by omega) (by rw [hxw]; exact v1) fun H5 F5 M5 g5 e5 ps5 hm5 => ?_
      have hpa : pAtom (sumN n) (ws.drop i) = if figs (tok ws i) then some (.num (tok ws i), ws.drop (i + 1)) else if isName (tok ws i) then some (.name (tok ws i), ws.drop (i + 1)) else none := by
        by_cases hlt : i < ws.length
        · obtain ⟨e1, e2⟩ := tok_in hlt
          rw [e1] at c0 c ⊢
          rw [e2]
          refine atom_word c0 fun ⟨z1, z2⟩ => ?_
          rw [z1, decide_eq_true ((tok_eq (by omega) (by decide)).mpr z2)] at c
          cases c
        · obtain ⟨e1, e2⟩ := tok_out (by omega) hi1
          rw [e1, e2]; rfl
      refine g_eM (e_orV (e_c1 (r := rW) (x := tok ws i) v1 ⟨by omega, as1⟩) fun _ => e_c1 (r := rW) (x := tok ws i) v1 ⟨by omega, as1⟩) g5 fun v6 H6 g6 hv6 => ?_
      cases hv6
      have oth : ∀ a, a ≠ s → a ≠ fl → M5 a = M a := fun a a1 a2 => (hm5 a a2).trans (hm2 a a1)
      have hin : (figs (tok ws i) || isName (tok ws i)) = true → i < ws.length := fun hz => by
        rcases Nat.lt_or_ge i ws.length with z | z
        · exact z
        · rw [(tok_out z hi1).1] at hz; exact absurd hz (by decide)
      cases hf : figs (tok ws i) with
      | true =>
        rw [hf] at hx hpa hin
        simp only [if_true] at hx hpa
        subst hx
        have := hin rfl
        exact q1 (.num (tok ws i)) (i + 1) H6 F5 M5 hpa (by omega) this (by simp [pst]) g6 ps5 oth
      | false =>
        rw [hf] at hx hpa hin
        simp only [Bool.false_eq_true, if_false] at hx hpa
        subst hx
        cases hn : isName (tok ws i) with
        | true =>
          rw [hn] at hpa hin
          simp only [if_true] at hpa
          have := hin rfl
          exact q1 (.name (tok ws i)) (i + 1) H6 F5 M5 hpa (by omega) this (by simp [pst]) g6 ps5 oth
        | false =>
          rw [hn] at hpa
          simp only [Bool.false_eq_true, if_false] at hpa
          exact q2 hpa H6 F5 M5 g6 oth
end
end F1

set_option Elab.async false
set_option linter.all false
set_option autoImplicit false
set_option maxRecDepth 100000
set_option maxHeartbeats 1000000
/-! # The law's reader: powers, products, sums -/
namespace F1
open PySem L2 Y
open Pl hiding Sp Ss PA PB RA RW RP RS
section
variable {P : Program} {w : World} {K : PySem.W.Frag} {mg : Str → Option Value} {base : Heap}
theorem pow_ok (T : Txt w K mg) {k n : Nat} (ok__law_parse_atom : FnOk P w K mg base CX0 k T.d__law_parse_atom.a T.d__law_parse_atom.fd ["state"] (spPa (pAtom (sumN n)) (n + 1) anyW)) :
    FnOk P w K mg base CX0 (k + 1) T.d__law_parse_power.a T.d__law_parse_power.fd ["state"] (spPa (pPow (sumN n)) (n + 1) anyW) := by
  refine T.d__law_parse_power.F.ok sc__law_parse_power spPa_len (fun cdv A outer s0 H vs Q Ew hr h => ?_)
  obtain ⟨Hk, M, s, tl, fl, ws, i, acc, rfl, h1, h2, ps, pp, hh, q1, q2⟩ := h
  refine ⟨_, (pss_cons (ps_if (pt_not (pt_val (pe_call ok__law_parse_atom (hr.mono (by omega)) (by rfl) T.g__law_parse_atom T.d__law_parse_atom.F.kp T.d__law_parse_atom.b .nil pass0 (pa_cons (pv 0) pa_nil)))) (pss_one (ps_ret pe_bl)) pss_nil)
      (pss_cons (ps_if (pt_cmpR op_eq (pe_ix (ix_listK (K := K) rfl) (pe_ix (ix_listK (K := K) rfl) (pv 0) pe_int (fun _ _ => rfl)) (pe_ix (ix_listK (K := K) rfl) (pv 0) pe_int (fun _ _ => rfl)) (fun _ _ => rfl)) pe_str (nomark _)) (pss_cons (ps_set (i := 1) sc__law_parse_power.nd rfl (Or.inl rfl) (pe_ix (ix_listK (K := K) rfl) (pe_ix (ix_listK (K := K) rfl) (pv 0) pe_int (fun _ _ => rfl)) (pe_op op_add (pe_ix (ix_listK (K := K) rfl) (pv 0) pe_int (fun _ _ => rfl)) pe_int) (fun _ _ => rfl)))
      (pss_cons (ps_if (PW.pt (pw_or (pt_cmpR op_ne (pe_callB call_len_str (by rfl) T.n_len (by decide +kernel) (pa_cons (pv 1) pa_nil)) pe_int (nomark _)) (pw_or1 (pt_cmpR op_notIn_sign (pv 1) pe_str (by rfl))))) (pss_one (ps_ret pe_bl)) pss_nil)
      (pss_cons (ps_expr (pe_bm PySem.F.plainAttrs_list PySem.F.slot_list_append PySem.F.type_list_append mt_append (pe_ix (ix_listK (K := K) rfl) (pv 0) pe_int (fun _ _ => rfl)) (pa_cons (pe_op op_add_str pe_str (pv 1)) pa_nil)))
      (pss_one (ps_asg (pe_op op_add (pe_ix (ix_listK (K := K) rfl) (pv 0) pe_int (fun _ _ => rfl)) pe_int) (pg_sub (pv 0) pe_int set_list)))))) pss_nil)
      (pss_one (ps_ret pe_bl)))), ?_⟩
  have g0 := GM.refl h1 h2
  show tCall _ _ _ _ _ _ _
  refine c_pa rfl ps g0 pp trivial (fun t j H1 F1 M1 e hj1 hj2 hj3 g1 ef ps1 hm1 => ?_) (fun e H1 F1 M1 g1 hm1 => ?_)
  · refine ⟨true, rfl, ?_⟩
    dsimp only
    rw [if_neg (by decide)]
    unfold tNext
    dsimp only
    have hal : (acc ++ pst t).length ≤ j := by rw [List.length_append]; have := pp.pa; omega
    have hl3 := pp.pl
    refine g_if (b := decide (tok ws j = [94])) (t_test (e_eqW (e_tok rfl ps1 g1 (by omega)) (e_w rfl))) g1 (fun c H2 g2 => ?_) (fun c H2 g2 => ?_)
    · have c := of_decide_eq_true c
      have hjl : j < ws.length := by
        rcases Nat.lt_or_ge j ws.length with z | z
        · exact z
        · rw [(tok_out z (by omega)).1] at c; cases c
      obtain ⟨e1, e2⟩ := tok_in hjl
      rw [e1] at c
      rw [c] at e2
      rw [e2] at e
      obtain ⟨ad, ld⟩ := asc_tok (i := j + 1) pp.pw (by omega)
      refine g_setM (r := rW) (x := tok ws (j + 1)) (e_tokI (j := j + 1) rfl ps1 g2 (by omega) ((e_i0 (f := fun i j => i + j) (e_at1 rfl ps1 g2) (e_int (n := 1))).as (by omega))) g2 fun v3 H3 g3 hv3 => ?_
      cases hv3
      dsimp only [List.set, L2.start]
      obtain ⟨dg, hdg⟩ : ∃ dg, dg = tok ws (j + 1) := ⟨_, rfl⟩
      rw [← hdg] at ad ld ⊢
      have v1 : ∀ {F : Hp}, E rW (tVar 1) [some (.ref s), some (.str (S dg))] F dg := e_var rfl rfl
      refine g_if (b := !decide ((dg.length : Int) = 1) || !decide (dg.headD 0 ∈ figuresW)) (t_or (t_test (e_neI (e_lenW v1 (by omega)) (e_int (n := 1)))) fun hn => ?_) g3 (fun cc H4 g4 => ?_) (fun cc H4 g4 => ?_)
      · have hn : dg.length = 1 := by have : ((dg.length : Int) = 1) := by simpa using hn
                                      omega
        obtain ⟨d, rfl⟩ := List.length_eq_one_iff.mp hn
        exact t_test (e_niS (c := d) (b := figuresW) v1 (e_w (by decide +kernel)))
      · refine q2 (pow_bad e fun d r' hd => ?_) H4 F1 M1 g4 hm1
        have hdl : j + 1 < ws.length := by
          rcases Nat.lt_or_ge (j + 1) ws.length with z | z
          · exact z
          · rw [List.drop_eq_nil_of_le z] at hd; cases hd
        obtain ⟨e3, e4⟩ := tok_in hdl
        rw [hd] at e4
        have : dg = [d] := by rw [hdg, e3]; exact (List.cons.inj e4).1.symm
        rw [this] at cc
        have hh : ([d] : W).headD 0 = d := rfl
        rw [hh, in_figures] at cc
        cases z : dig d with
        | false => rfl
        | true => rw [z] at cc; simp at cc
      · have hlen : dg.length = 1 := by
          have : decide ((dg.length : Int) = 1) = true := by revert cc; cases decide ((dg.length : Int) = 1) <;> simp
          have := of_decide_eq_true this; omega
        obtain ⟨d, rfl⟩ := List.length_eq_one_iff.mp hlen
        have hd : dig d = true := by
          have hh : ([d] : W).headD 0 = d := rfl
          rw [hh, in_figures] at cc
          revert cc
          cases dig d <;> simp
        have hdl : j + 1 < ws.length := by
          rcases Nat.lt_or_ge (j + 1) ws.length with z | z
          · exact z
          · rw [(tok_out z (by omega)).1] at hdg; cases hdg; exact absurd hd (by decide)
        obtain ⟨e3, e4⟩ := tok_in hdl
        rw [← e3, ← hdg] at e4
        rw [e4] at e
        have hw : Stp.w (.pow (d - 48)) = [94] ++ [d] := by
          unfold dig at hd
          simp only [Bool.and_eq_true, decide_eq_true_eq] at hd
          show [94, 48 + (d - 48)] = [94, d]
          rw [show 48 + (d - 48) = d by omega]
        dsimp only
        refine g_add (x := .pow (d - 48)) rfl ps1 g4 (by omega) (by rw [hw]; exact e_catW (e_w (a := [94]) rfl) v1 (by show 1 + 1 ≤ 100000; decide)) fun H5 F5 M5 g5 e5 ps5 hm5 => ?_
        refine g_adv (j := j + 2) rfl ps5 g5 ((e_i0 (f := fun i j => i + j) (e_at1 rfl ps5 g5) (e_int (n := 2))).as (by omega)) fun H6 M6 g6 ps6 hm6 => ?_
        refine q1 (.pow t (d - 48)) (j + 2) H6 F5 M6 (pow_yes e hd) (by omega) (by omega) (by simp [pst]; omega) g6 (by rw [List.append_assoc] at ps6; exact ps6) fun a a1 a2 => (hm6 a a1).trans ((hm5 a a2).trans (hm1 a a1 a2))
    · have c := of_decide_eq_false c
      dsimp only
      exact q1 t j H2 F1 M1 (pow_id e fun z => c ((tok_eq (by omega) (by decide)).mpr z)) hj1 hj2 hj3 g2 ps1 hm1
  · refine ⟨false, rfl, ?_⟩
    dsimp only
    rw [if_pos (by decide)]
    exact q2 (pow_none e) H1 F1 M1 g1 hm1
/-- a row of operators -/
theorem loop_ok {hit : W → Option Op} {f : Pa} {l : List W} {n kk z : Nat} {tr : TA} (hl : ∀ w, decide (w ∈ l) = (hit w).isSome) (hw : ∀ w o, hit w = some o → w = [o.c]) (hz : l.length ≤ 1000) (cf : Cuts kk f) (hmx : ∀ ts t r, mx ts < n → f ts = some (t, r) → mx r ≤ mx ts)
    (etr : ∀ σ F, EA (fun _ vs => vs = l.map fun x => V.str (S x)) tr σ F) {s tl fl : Addr} {σ : Option V → L2.St} (s0 : ∀ a, (σ a)[0]? = some (some (.ref s))) (sz : ∀ a, (σ (some a))[z]? = some (some a)) (ss : ∀ a v, (σ a).set z (some v) = σ (some v))
    {D : Ends} {ws : List W} {acc : List Stp} {t0 : Tr} {j0 k0 : Nat} {a0 : Option V} {K0 H0 M0 F M H : Hp} (g : GM K0 H0 M0 F H M) (ps : PSt F M s tl fl ws j0 (acc ++ pst t0)) (hj : j0 ≤ ws.length) (ha : (acc ++ pst t0).length ≤ j0) (hl3 : ws.length ≤ 30000) (hwd : ∀ u ∈ ws, Wd u ∧ u.length ≤ 30000) (hm : mx (ws.drop j0) < n) (hk0 : (ws.drop j0).length ≤ k0)
    (q1 : ∀ t j a H' F' M', chain hit f k0 t0 (ws.drop j0) = some (t, ws.drop j) → j0 ≤ j → j ≤ ws.length → (acc ++ pst t).length ≤ j → GM K0 H0 M0 F' H' M' → PSt F' M' s tl fl ws j (acc ++ pst t) → (∀ a, a ≠ s → a ≠ fl → M' a = M a) → D.nx (σ a) H')
    (q2 : chain hit f k0 t0 (ws.drop j0) = none → ∀ H' F' M', GM K0 H0 M0 F' H' M' → (∀ a, a ≠ s → a ≠ fl → M' a = M a) → D.rt (.bl false) H') :
    tWhile (tTest (tOp (rIn K false) (tOp (rIxL K) (tOp (rIxL K) (tVar 0) (tC (.int 0))) (tOp (rIxL K) (tVar 0) (tC (.int 1)))) (tTup tr)))
      (tSeq (tAsg (tOp (rIxL K) (tOp (rIxL K) (tVar 0) (tC (.int 0))) (tOp (rIxL K) (tVar 0) (tC (.int 1)))) (gName z)) (tSeq (tAsg (tOp (rI0 fun i j => .int (i + j)) (tOp (rIxL K) (tVar 0) (tC (.int 1))) (tC (.int 1))) (gSub (tVar 0) (tC (.int 1)) rSetL))
        (tSeq (tIfS (tNot (tB (tCall (spPa f n anyW) [] E0 (tCons (tVar 0) tNil)))) (tRet (tC (.bl false))) tNext) (tDrop (tBM K "list" rAppend (tOp (rIxL K) (tVar 0) (tC (.int 2))) (tCons (tVar z) tNil)))))) D (σ a0) H := by
  refine s_while (fun m σ' H' => ∃ (t : Tr) (j k : Nat) (a : Option V) (K1 M1 : Hp), σ' = σ a ∧ m = ws.length - j ∧ GM K0 H0 M0 K1 H' M1 ∧ PSt K1 M1 s tl fl ws j (acc ++ pst t) ∧ j0 ≤ j ∧ j ≤ ws.length ∧ (acc ++ pst t).length ≤ j ∧ mx (ws.drop j) < n ∧ (ws.drop j).length ≤ k ∧ chain hit f k0 t0 (ws.drop j0) = chain hit f k t (ws.drop j) ∧ (∀ a, a ≠ s → a ≠ fl → M1 a = M a)) _
    ⟨t0, j0, k0, a0, F, M, rfl, rfl, g, ps, Nat.le_refl _, hj, ha, hm, hk0, rfl, fun _ _ _ => rfl⟩ ?_
  rintro m σ' H' ⟨t, j, k, a, K1, M1, rfl, rfl, g, ps, hj1, hj2, hal, hm, hk, hch, hmm⟩
  refine ⟨(hit (tok ws j)).isSome, jn K1 M1, g.jn, t_test ((e_inT (l := l) (e_tok (s0 a) ps g (by omega)) (etr _ _) hz).as (hl _)), fun hb H1 e1 => ?_, fun hb H1 e1 => ?_⟩
  · obtain ⟨o, ho⟩ := Option.isSome_iff_exists.mp hb
    have htw := hw _ _ ho
    have hjl : j < ws.length := by
      rcases Nat.lt_or_ge j ws.length with z | z
      · exact z
      · rw [(tok_out z (by omega)).1] at htw
        cases o <;> cases htw
    obtain ⟨e3, e4⟩ := tok_in hjl
    rw [← e3] at e4
    have g1 := g.ex e1
    refine g_setM (r := rW) (x := tok ws j) (e_tok (s0 a) ps g1 (by omega)) g1 fun v2 H2 g2 hv2 => ?_
    cases hv2
    rw [ss]
    refine g_adv (j := j + 1) (s0 _) ps g2 ((e_i0 (f := fun i j => i + j) (e_at1 (s0 _) ps g2) (e_int (n := 1))).as (by omega)) fun H3 M3 g3 ps3 hm3 => ?_
    have hmx1 : mx (ws.drop (j + 1)) < n := by
      rw [e4, mx_flat] at hm
      · exact hm
      · rw [htw]; cases o <;> rfl
    obtain ⟨k', hk', hgo⟩ := chain_go (f := f) t (by rw [← e4]; exact hk) ho
    rw [← e4] at hgo
    dsimp only
    show tCall _ _ _ _ _ _ _
    refine c_pa (s0 _) ps3 g3 ⟨hjl, by omega, hl3, hwd, hmx1⟩ trivial (fun u j' H4 F4 M4 e hj3 hj4 hj5 g4 ef ps4 hm4 => ?_) (fun e H4 F4 M4 g4 hm4 => ?_)
    · refine ⟨true, rfl, ?_⟩
      dsimp only
      rw [if_neg (by decide)]
      unfold tNext
      dsimp only
      have hal4 : (acc ++ pst t ++ pst u).length ≤ j' := by
        simp only [List.length_append] at hal ⊢; omega
      refine g_add (x := .op o) (s0 _) ps4 g4 (by omega) (e_var (r := rW) (x := [o.c]) (by show V.str _ = V.str _; rw [htw]) (sz _)) fun H5 F5 M5 g5 e5 ps5 hm5 => ?_
      refine ⟨ws.length - j', by omega, .op o t u, j', k', _, F5, M5, rfl, rfl, g5, by rw [List.append_assoc, List.append_assoc, ← List.append_assoc (pst t)] at ps5; exact ps5, by omega, hj4, by simp only [pst, List.length_append, List.length_singleton] at hal ⊢; omega, Int.lt_of_le_of_lt (hmx _ _ _ hmx1 e) hmx1, ?_, by rw [hch, hgo, e], fun a a1 a2 => (hm5 a a2).trans ((hm4 a a1 a2).trans ((hm3 a a1).trans (hmm a a1 a2)))⟩
      rw [List.length_drop] at hk' ⊢; omega
    · refine ⟨false, rfl, ?_⟩
      dsimp only
      rw [if_pos (by decide)]
      exact q2 (by rw [hch, hgo, e]) H4 F4 M4 g4 fun a a1 a2 => (hm4 a a1 a2).trans ((hm3 a a1).trans (hmm a a1 a2))
  · have hn : hit (tok ws j) = none := by
      cases h : hit (tok ws j) with
      | none => rfl
      | some o => rw [h] at hb; cases hb
    refine q1 t j a H1 K1 M1 ?_ hj1 hj2 hal (g.ex e1) ps hmm
    rw [hch]
    refine chain_stop t k _ hk fun w r hwr => ?_
    have hjl : j < ws.length := by
      rcases Nat.lt_or_ge j ws.length with z | z
      · exact z
      · rw [List.drop_eq_nil_of_le z] at hwr; cases hwr
    obtain ⟨e3, e4⟩ := tok_in hjl
    rw [hwr] at e4
    rw [(List.cons.inj e4).1, ← e3]; exact hn
theorem prod_ok (T : Txt w K mg) {k n : Nat} (ok__law_parse_power : FnOk P w K mg base CX0 k T.d__law_parse_power.a T.d__law_parse_power.fd ["state"] (spPa (pPow (sumN n)) (n + 1) anyW)) :
    FnOk P w K mg base CX0 (k + 1) T.d__law_parse_product.a T.d__law_parse_product.fd ["state"] (spPa (pProd (sumN n)) (n + 1) anyW) := by
  refine T.d__law_parse_product.F.ok sc__law_parse_product spPa_len (fun cdv A outer s0 H vs Q Ew hr h => ?_)
  obtain ⟨Hk, M, s, tl, fl, ws, i, acc, rfl, h1, h2, ps, pp, hh, q1, q2⟩ := h
  refine ⟨_, (pss_cons (ps_if (pt_not (pt_val (pe_call ok__law_parse_power (hr.mono (by omega)) (by rfl) T.g__law_parse_power T.d__law_parse_power.F.kp T.d__law_parse_power.b .nil pass0 (pa_cons (pv 0) pa_nil)))) (pss_one (ps_ret pe_bl)) pss_nil)
      (pss_cons (ps_while PassesOwn.never (pt_cmpR op_in_seq (pe_ix (ix_listK (K := K) rfl) (pe_ix (ix_listK (K := K) rfl) (pv 0) pe_int (fun _ _ => rfl)) (pe_ix (ix_listK (K := K) rfl) (pv 0) pe_int (fun _ _ => rfl)) (fun _ _ => rfl)) (pe_tup (pa_cons pe_str (pa_cons pe_str pa_nil))) (by rfl)) (pss_cons (ps_set (i := 1) sc__law_parse_product.nd rfl (Or.inl rfl) (pe_ix (ix_listK (K := K) rfl) (pe_ix (ix_listK (K := K) rfl) (pv 0) pe_int (fun _ _ => rfl)) (pe_ix (ix_listK (K := K) rfl) (pv 0) pe_int (fun _ _ => rfl)) (fun _ _ => rfl)))
      (pss_cons (ps_asg (pe_op op_add (pe_ix (ix_listK (K := K) rfl) (pv 0) pe_int (fun _ _ => rfl)) pe_int) (pg_sub (pv 0) pe_int set_list))
      (pss_cons (ps_if (pt_not (pt_val (pe_call ok__law_parse_power (hr.mono (by omega)) (by rfl) T.g__law_parse_power T.d__law_parse_power.F.kp T.d__law_parse_power.b .nil pass0 (pa_cons (pv 0) pa_nil)))) (pss_one (ps_ret pe_bl)) pss_nil)
      (pss_one (ps_expr (pe_bm PySem.F.plainAttrs_list PySem.F.slot_list_append PySem.F.type_list_append mt_append (pe_ix (ix_listK (K := K) rfl) (pv 0) pe_int (fun _ _ => rfl)) (pa_cons (pv 1) pa_nil))))))))
      (pss_one (ps_ret pe_bl)))), ?_⟩
  have g0 := GM.refl h1 h2
  have cf : Cuts 3 (pPow (sumN n)) := cuts_pow (cuts_sumN n)
  have hmx : ∀ ts t r, mx ts < ((n + 1 : Nat) : Int) → pPow (sumN n) ts = some (t, r) → mx r ≤ mx ts := fun ts t r h e => ((pow_sp (sumN_sp n)).2 ts t r (by omega) e).1
  show tCall _ _ _ _ _ _ _
  refine c_pa rfl ps g0 pp trivial (fun t j H1 F1 M1 e hj1 hj2 hj3 g1 ef ps1 hm1 => ?_) (fun e H1 F1 M1 g1 hm1 => ?_)
  · refine ⟨true, rfl, ?_⟩
    dsimp only
    rw [if_neg (by decide)]
    unfold tNext
    dsimp only
    have hal : (acc ++ pst t).length ≤ j := by rw [List.length_append]; have := pp.pa; omega
    refine loop_ok (hit := highOp) (f := pPow (sumN n)) (l := [[42], [47]]) (kk := 3) (n := n + 1) (z := 1) (fun w => high_tok) (fun w o => high_w) (by decide) cf hmx (fun σ F => ea_w (e_w rfl) (ea_w (e_w rfl) ea_w0)) (s := s) (σ := fun a => [some (.ref s), a]) (fun _ => rfl) (fun _ => rfl) (fun _ _ => rfl) (a0 := none) g1 ps1 hj2 hal pp.pl pp.pw (Int.lt_of_le_of_lt (hmx _ _ _ pp.pm e) pp.pm) (Nat.le_refl _) (fun t' j' a H2 F2 M2 e2 h3 h4 h5 g2 ps2 hm2 => ?_) (fun e2 H2 F2 M2 g2 hm2 => ?_)
    · have hy : pProd (sumN n) (ws.drop i) = some (t', ws.drop j') := by rw [prod_some e]; exact e2
      exact q1 t' j' H2 F2 M2 hy (by omega) h4 (cut_len (cuts_prod (cuts_sumN n)) hy pp.pi h4) g2 ps2 fun a a1 a2 => (hm2 a a1 a2).trans (hm1 a a1 a2)
    · exact q2 (by rw [prod_some e]; exact e2) H2 F2 M2 g2 fun a a1 a2 => (hm2 a a1 a2).trans (hm1 a a1 a2)
  · refine ⟨false, rfl, ?_⟩
    dsimp only
    rw [if_pos (by decide)]
    exact q2 (prod_none e) H1 F1 M1 g1 hm1
theorem sum_ok (T : Txt w K mg) {k n : Nat} (ok__law_parse_product : FnOk P w K mg base CX0 k T.d__law_parse_product.a T.d__law_parse_product.fd ["state"] (spPa (pProd (sumN n)) (n + 1) anyW)) :
    FnOk P w K mg base CX0 (k + 1) T.d__law_parse_sum.a T.d__law_parse_sum.fd ["state"] (spPa (sumN (n + 1)) (n + 1) anyW) := by
  refine T.d__law_parse_sum.F.ok sc__law_parse_sum spPa_len (fun cdv A outer s0 H vs Q Ew hr h => ?_)
  obtain ⟨Hk, M, s, tl, fl, ws, i, acc, rfl, h1, h2, ps, pp, hh, q1, q2⟩ := h
  refine ⟨_, (pss_cons (ps_set (i := 1) sc__law_parse_sum.nd rfl (Or.inl rfl) (pe_cmpR op_eq (pe_ix (ix_listK (K := K) rfl) (pe_ix (ix_listK (K := K) rfl) (pv 0) pe_int (fun _ _ => rfl)) (pe_ix (ix_listK (K := K) rfl) (pv 0) pe_int (fun _ _ => rfl)) (fun _ _ => rfl)) pe_str (nomark _)))
      (pss_cons (ps_asg (pe_op op_add (pe_ix (ix_listK (K := K) rfl) (pv 0) pe_int (fun _ _ => rfl)) (pe_callTy c_toInt (by rfl) T.n_int (by decide +kernel) (pa_cons (pv 1) pa_nil))) (pg_sub (pv 0) pe_int set_list))
      (pss_cons (ps_if (pt_not (pt_val (pe_call ok__law_parse_product (hr.mono (by omega)) (by rfl) T.g__law_parse_product T.d__law_parse_product.F.kp T.d__law_parse_product.b .nil pass0 (pa_cons (pv 0) pa_nil)))) (pss_one (ps_ret pe_bl)) pss_nil)
      (pss_cons (ps_if (pt_val (pv 1)) (pss_one (ps_expr (pe_bm PySem.F.plainAttrs_list PySem.F.slot_list_append PySem.F.type_list_append mt_append (pe_ix (ix_listK (K := K) rfl) (pv 0) pe_int (fun _ _ => rfl)) (pa_cons pe_str pa_nil)))) pss_nil)
      (pss_cons (ps_while PassesOwn.never (pt_cmpR op_in_seq (pe_ix (ix_listK (K := K) rfl) (pe_ix (ix_listK (K := K) rfl) (pv 0) pe_int (fun _ _ => rfl)) (pe_ix (ix_listK (K := K) rfl) (pv 0) pe_int (fun _ _ => rfl)) (fun _ _ => rfl)) (pe_tup (pa_cons pe_str (pa_cons pe_str pa_nil))) (by rfl)) (pss_cons (ps_set (i := 2) sc__law_parse_sum.nd rfl (Or.inl rfl) (pe_ix (ix_listK (K := K) rfl) (pe_ix (ix_listK (K := K) rfl) (pv 0) pe_int (fun _ _ => rfl)) (pe_ix (ix_listK (K := K) rfl) (pv 0) pe_int (fun _ _ => rfl)) (fun _ _ => rfl)))
      (pss_cons (ps_asg (pe_op op_add (pe_ix (ix_listK (K := K) rfl) (pv 0) pe_int (fun _ _ => rfl)) pe_int) (pg_sub (pv 0) pe_int set_list))
      (pss_cons (ps_if (pt_not (pt_val (pe_call ok__law_parse_product (hr.mono (by omega)) (by rfl) T.g__law_parse_product T.d__law_parse_product.F.kp T.d__law_parse_product.b .nil pass0 (pa_cons (pv 0) pa_nil)))) (pss_one (ps_ret pe_bl)) pss_nil)
      (pss_one (ps_expr (pe_bm PySem.F.plainAttrs_list PySem.F.slot_list_append PySem.F.type_list_append mt_append (pe_ix (ix_listK (K := K) rfl) (pv 0) pe_int (fun _ _ => rfl)) (pa_cons (pv 2) pa_nil))))))))
      (pss_one (ps_ret pe_bl))))))), ?_⟩
  have g0 := GM.refl h1 h2
  have hpi := pp.pi
  have hpa := pp.pa
  have hpl := pp.pl
  have cf : Cuts 2 (pProd (sumN n)) := cuts_prod (cuts_sumN n)
  have hmx : ∀ ts t r, mx ts < ((n + 1 : Nat) : Int) → pProd (sumN n) ts = some (t, r) → mx r ≤ mx ts := fun ts t r h e => ((prod_sp (sumN_sp n)).2 ts t r (by omega) e).1
  obtain ⟨m, hm⟩ : ∃ m, m = decide ((ws.drop i).head? = some [45]) := ⟨_, rfl⟩
  have hmt : decide (tok ws i = [45]) = m := by rw [hm, Bool.eq_iff_iff, decide_eq_true_eq, decide_eq_true_eq]; exact tok_eq (by omega) (by decide)
  refine g_setM (r := rBl) (x := m) ((e_eqW (e_tok rfl ps g0 (by omega)) (e_w rfl)).as hmt) g0 fun v1 H1 g1 hv1 => ?_
  cases hv1
  dsimp only [List.set, L2.start]
  refine g_adv (j := i + (if m then 1 else 0)) rfl ps g1 ((e_i0 (f := fun i j => i + j) (e_at1 rfl ps g1) (e_b2i (b := m) (e_var rfl rfl))).as (by cases m <;> simp)) fun H2 M2 g2 ps2 hm2 => ?_
  have hlt : m = true → i < ws.length := fun hz => by
    rcases Nat.lt_or_ge i ws.length with z | z
    · exact z
    · rw [hz] at hm; rw [List.drop_eq_nil_of_le z] at hm; cases hm
  have hts : (if m then (ws.drop i).tail else ws.drop i) = ws.drop (i + (if m then 1 else 0)) := by
    cases m with
    | false => rfl
    | true =>
      obtain ⟨e1, e2⟩ := tok_in (hlt rfl)
      simp only [if_true]
      rw [e2, List.tail_cons]
  have hi2 : i + (if m then 1 else 0) ≤ ws.length := by
    cases m with
    | false => simpa using hpi
    | true => have := hlt rfl; simp only [if_true]; omega
  have hm3 : mx (ws.drop (i + (if m then 1 else 0))) < ((n + 1 : Nat) : Int) := by
    rw [← hts]
    cases hmm : m with
    | false => exact pp.pm
    | true =>
      obtain ⟨e1, e2⟩ := tok_in (hlt hmm)
      have h45 : tok ws i = [45] := of_decide_eq_true (by rw [hmt]; exact hmm)
      rw [e1] at h45
      have := pp.pm
      rw [e2, h45, mx_flat _ (show Pl.dl [45] = 0 by rfl)] at this
      simp only [if_true]
      rw [e2, List.tail_cons]; exact this
  have hac : acc.length + (if m then 1 else 0) ≤ i + (if m then 1 else 0) := by omega
  dsimp only
  show tCall _ _ _ _ _ _ _
  refine c_pa rfl ps2 g2 ⟨hi2, by omega, hpl, pp.pw, hm3⟩ trivial (fun t j H3 F3 M3 e hj1 hj2 hj3 g3 ef ps3 hm3' => ?_) (fun e H3 F3 M3 g3 hm3' => ?_)
  · refine ⟨true, rfl, ?_⟩
    dsimp only
    rw [if_neg (by decide)]
    unfold tNext
    dsimp only
    rw [← hts] at e
    have hsum := sum_some (s := sumN n) hm e
    have hmj : mx (ws.drop j) < ((n + 1 : Nat) : Int) := by
      rw [hts] at e
      exact Int.lt_of_le_of_lt (hmx _ _ _ hm3 e) hm3
    have hal : (acc ++ pst (if m then .neg t else t)).length ≤ j := by
      rw [List.length_append]
      cases m <;> simp [pst] at hj1 hj3 hac ⊢ <;> omega
    have fin : ∀ H4 F4 M4, GM Hk H M F4 H4 M4 → PSt F4 M4 s tl fl ws j (acc ++ pst (if m then .neg t else t)) → (∀ a, a ≠ s → a ≠ fl → M4 a = M a) → 
        tWhile (tTest (tOp (rIn K false) (tOp (rIxL K) (tOp (rIxL K) (tVar 0) (tC (.int 0))) (tOp (rIxL K) (tVar 0) (tC (.int 1)))) (tTup (tCons (tC (.str "+")) (tCons (tC (.str "-")) tNil)))))
          (tSeq (tAsg (tOp (rIxL K) (tOp (rIxL K) (tVar 0) (tC (.int 0))) (tOp (rIxL K) (tVar 0) (tC (.int 1)))) (gName 2)) (tSeq (tAsg (tOp (rI0 fun i j => .int (i + j)) (tOp (rIxL K) (tVar 0) (tC (.int 1))) (tC (.int 1))) (gSub (tVar 0) (tC (.int 1)) rSetL))
            (tSeq (tIfS (tNot (tB (tCall (spPa (pProd (sumN n)) (n + 1) anyW) [] E0 (tCons (tVar 0) tNil)))) (tRet (tC (.bl false))) tNext) (tDrop (tBM K "list" rAppend (tOp (rIxL K) (tVar 0) (tC (.int 2))) (tCons (tVar 2) tNil))))))
          { nx := tRet (tC (.bl true)) { nx := fun _ H' => Q .non H', rt := Q }, rt := Q } [some (.ref s), some (.bl m), none] H4 := fun H4 F4 M4 g4 ps4 hm4 =>
      loop_ok (hit := lowOp) (f := pProd (sumN n)) (l := [[43], [45]]) (kk := 2) (n := n + 1) (z := 2) (fun w => low_tok) (fun w o => low_w) (by decide) cf hmx (fun σ F => ea_w (e_w rfl) (ea_w (e_w rfl) ea_w0)) (s := s) (σ := fun a => [some (.ref s), some (.bl m), a]) (fun _ => rfl) (fun _ => rfl) (fun _ _ => rfl) (a0 := none) g4 ps4 hj2 hal hpl pp.pw hmj (Nat.le_refl _)
        (fun t' j' a H5 F5 M5 e2 h3 h4 h5 g5 ps5 hm5 => by
          have hy : sumN (n + 1) (ws.drop i) = some (t', ws.drop j') := by show pSum (sumN n) (ws.drop i) = _; rw [hsum]; exact e2
          exact q1 t' j' H5 F5 M5 hy (by omega) h4 (cut_len (cuts_sumN (n + 1)) hy hpi h4) g5 ps5 fun a a1 a2 => (hm5 a a1 a2).trans (hm4 a a1 a2))
        (fun e2 H5 F5 M5 g5 hm5 => q2 (by show pSum (sumN n) (ws.drop i) = _; rw [hsum]; exact e2) H5 F5 M5 g5 fun a a1 a2 => (hm5 a a1 a2).trans (hm4 a a1 a2))
    refine g_if (b := m) (t_b (e_var rfl rfl)) g3 (fun c H4 g4 => ?_) (fun c H4 g4 => ?_)
    · refine g_add (x := .neg) rfl ps3 g4 (by rw [List.length_append]; rw [c] at hj1 hj3 hac; simp at hj1 hj3 hac ⊢; omega) (e_w rfl) fun H5 F5 M5 g5 e5 ps5 hm5 => ?_
      refine fin H5 F5 M5 g5 (by rw [c]; simp only [if_true]; rw [List.append_assoc] at ps5; exact ps5) fun a a1 a2 => (hm5 a a2).trans ((hm3' a a1 a2).trans (hm2 a a1))
    · exact fin H4 F3 M3 g4 (by rw [c]; exact ps3) fun a a1 a2 => (hm3' a a1 a2).trans (hm2 a a1)
  · refine ⟨false, rfl, ?_⟩
    dsimp only
    rw [if_pos (by decide)]
    rw [← hts] at e
    exact q2 (sum_none hm e) H3 F3 M3 g3 fun a a1 a2 => (hm3' a a1 a2).trans (hm2 a a1)
/-- the reader, at every depth of nesting -/
theorem sums_ok (T : Txt w K mg) : ∀ n : Nat, FnOk P w K mg base CX0 (5 * n + 2) T.d__law_parse_sum.a T.d__law_parse_sum.fd ["state"] (spPa (sumN n) n anyW)
  | 0 => ⟨fun vs H Q E h => spPa_len vs H Q E h, fun _ _ _ _ _ _ _ _ _ _ _ _ _ h => by
      obtain ⟨_, _, _, _, _, ws, i, _, _, _, _, _, pp, _⟩ := h
      have := pp.pm
      have := mx_pos (ws.drop i)
      omega⟩
  | n + 1 => by
    have ih := sums_ok T n
    have a1 := atom_ok T (k := 5 * n) (hd := opnW) ih FnOk.never (by omega) (.inl fun _ h => h)
    have a2 := atom_ok T (k := 5 * n + 1) (hd := anyW) (ih.mono (by omega)) a1 (by omega) (.inr rfl)
    have p := pow_ok T a2
    have q := prod_ok T p
    exact sum_ok T q
end
end F1

set_option Elab.async false
set_option linter.all false
set_option autoImplicit false
set_option maxRecDepth 100000
set_option maxHeartbeats 4000000
/-! # The law's reader, whole -/
namespace F1
open PySem L2 Y
open Pl hiding Sp Ss PA PB RA RW RP RS
/-- the words of a formula, none where there is none -/
def wof : Option Tr → List Stp | some t => pst t | none => []
def rO : Rp (Option Tr) := fun H v o => rLst rWd H v (wof o)
instance : Mono rO := ⟨fun e h => up (r := rLst rWd) e h⟩
theorem tok_end {ws : List W} {j : Nat} (hw : ∀ u ∈ ws, Wd u) (hj : j ≤ ws.length) : tok ws j = [46] ↔ j = ws.length := by
  constructor
  · intro h
    rcases Nat.lt_or_ge j ws.length with z | z
    · have := (tok_in z).1
      rw [h] at this
      have h2 := hw ws[j] (List.getElem_mem z)
      rw [← this] at h2
      rcases h2 with ⟨_, h2⟩ | ⟨c, h2, h3⟩
      · exact absurd (h2 46 (by simp)) (by decide)
      · cases h2; exact absurd h3 (by decide)
    · omega
  · intro h
    exact (tok_out (by omega) (by omega)).1
section
variable {P : Program} {w : World} {K : PySem.W.Frag} {mg : Str → Option Value} {base : Heap}
theorem en_two {α : Type} {r : Rp α} [Mono r] {σ : L2.St} {Hk : Hp} {ta tb : TE} {x y : α} (h1 : E r ta σ Hk x) (h2 : E r tb σ Hk y) : EN r (tLst (tCons ta (tCons tb tNil))) σ Hk [x, y] := fun H a Q q => two h1 h2 H a _ fun v w H2 F g hv hw =>
  ⟨sz_of (by show 2 ≤ 100000; decide), fun p hp => q p [v, w] _ F ⟨g.h.trans (Ex.new hp), g.k, g.f.trans (Ex.new hp), g.n⟩ (g.f.free hp) (g.h.free hp) upd_same (.cons hv (.cons hw .nil))⟩
theorem of_wds {F : Hp} : ∀ l : List Stp, Paired (rWd F) (l.map fun x => V.str (S x.w)) l
  | [] => .nil
  | _ :: l => .cons rfl (of_wds l)
theorem ok__law_parse_sum (T : Txt w K mg) : FnOk P w K mg base CX0 202 T.d__law_parse_sum.a T.d__law_parse_sum.fd ["state"] (spPa (sumN 40) 40 anyW) := sums_ok T 40
theorem read_parse {x : W} {ts : List W} (h : toks x = some ts) (hm : mxc x < 40) : Pl.read x = parse 40 ts := by
  unfold Pl.read
  rw [h]
  exact run_parse 40 ts (by rw [mx_toks h]; exact hm)
theorem ok__law_parse (T : Txt w K mg) : FnOk P w K mg base CX0 203 T.d__law_parse.a T.d__law_parse.fd ["words"] (sp1 rW rO (fun x => x.length ≤ 20000 ∧ mxc x < 40) Pl.read) := by
  refine T.d__law_parse.F.ok sc__law_parse (fun vs H Q Ew h => ?_) (fun cdv A outer s H vs Q Ew hr h => ?_)
  · obtain ⟨_, _, v, x, rfl, _⟩ := h; rfl
  · obtain ⟨Hk, ex, v, x, rfl, hv, ⟨hx, hm⟩, q⟩ := h
    refine ⟨_, (pss_cons (ps_set (i := 1) sc__law_parse.nd rfl (Or.inl rfl) (pe_call (ok__law_tokens T) (hr.mono (by decide)) (by rfl) T.g__law_tokens T.d__law_tokens.F.kp T.d__law_tokens.b .nil pass0 (pa_cons (pv 0) pa_nil)))
      (pss_cons (ps_if (pt_cmpR op_isN (pv 1) pe_non (nomark _)) (pss_one (ps_ret (pe_lst pa_nil))) pss_nil)
      (pss_cons (ps_set (i := 2) sc__law_parse.nd rfl (Or.inl rfl) (pe_lst (pa_cons (pe_op op_cat (pv 1) (pe_lst (pa_cons pe_str (pa_cons pe_str pa_nil)))) (pa_cons pe_int (pa_cons (pe_lst pa_nil) pa_nil)))))
      (pss_one (ps_ret (pe_ifExp (PW.pt (pw_and (pt_val (pe_call (ok__law_parse_sum T) (hr.mono (by decide)) (by rfl) T.g__law_parse_sum T.d__law_parse_sum.F.kp T.d__law_parse_sum.b .nil pass0 (pa_cons (pv 2) pa_nil))) (pw_and1 (pt_cmpR op_eq (pe_ix (ix_listK (K := K) rfl) (pe_ix (ix_listK (K := K) rfl) (pv 2) pe_int (fun _ _ => rfl)) (pe_ix (ix_listK (K := K) rfl) (pv 2) pe_int (fun _ _ => rfl)) (fun _ _ => rfl)) pe_str (nomark _))))) (pe_ix (ix_listK (K := K) rfl) (pv 2) pe_int (fun _ _ => rfl)) (pe_lst pa_nil))))))), ?_⟩
    refine s_set (K := Hk) (r := rOpt (rLst rW)) (x := toks x) (e_c1 (e_var hv rfl) (by omega)) ex fun v1 H1 F1 g1 hv1 => ?_
    dsimp only [List.set, L2.start]
    cases e : toks x with
    | none =>
      rw [e] at hv1
      cases hv1
      refine s_if (K := F1) (b := true) (t_test (fun H e Q q => ⟨.non, rfl, rfl, q _ H F1 (Grow.refl e) rfl⟩)) g1.f (fun _ H2 e2 => ?_) (fun z => nomatch z)
      have hn : Pl.read x = none := by unfold Pl.read; rw [e]; rfl
      rw [hn] at q
      exact s_ret (en_nil (r := rWd)).e (g1.f.trans e2) fun v3 H3 F3 g3 hv3 => q v3 H3 F3 ((g1.trans (Grow.of g1.f e2)).trans g3) hv3
    | some ts =>
      rw [e] at hv1
      obtain ⟨a1, vs1, rfl, ha1, hp1⟩ := hv1
      have hwd := toks_wd e
      have hlen : ts.length ≤ x.length := toks_len e
      refine s_if (K := F1) (b := false) (t_test (fun H e Q q => ⟨.ref a1, rfl, rfl, q _ H F1 (Grow.refl e) (by show V.bl _ = V.bl _; rw [decide_eq_false (by simp)])⟩)) g1.f (fun z => nomatch z) (fun _ H2 e2 => ?_)
      unfold tNext
      dsimp only
      have g2 := ((GM.start ex).grow g1).ex e2
      refine g_e (K := F1) (r := rLst rW) (te := tOp rCat (tVar 1) (tLst (tCons (tC (.str ".")) (tCons (tC (.str ".")) tNil)))) (x := wl2 ts) (en_cat (e_var (r := rLst rW) ⟨a1, vs1, rfl, ha1, hp1⟩ rfl) (en_two (e_w (a := [46]) rfl) (e_w (a := [46]) rfl)).e (by show ts.length + 2 ≤ _; omega)).e g2 fun v3 H3 F3 g3 e3 hv3 => ?_
      obtain ⟨tl, vs3, rfl, htl, hp3⟩ := hv3
      have hws := ws_of hp3
      subst hws
      refine ⟨Nat.zero_le _, fun fl hfl => ⟨by show 3 ≤ sizeLine; decide, fun s hs => ?_⟩⟩
      have g4 := g3.new (u := .lst []) hfl
      have g5 := g4.new (u := .lst [.ref tl, .int 0, .ref fl]) hs
      have hne : s ≠ fl := fun z => by subst z; rw [upd_same] at hs; cases hs
      have ps : PSt F3 (upd (upd em fl (.lst [])) s (.lst [.ref tl, .int 0, .ref fl])) s tl fl ts 0 [] := ⟨upd_same, htl, by rw [upd_ne (Ne.symm hne), upd_same]; rfl, hne⟩
      have hrp := read_parse e hm
      dsimp only [gName, List.set]
      show tCall _ _ _ _ _ _ _
      refine c_pa rfl ps g5 ⟨Nat.zero_le _, Nat.le_refl _, by omega, fun u hu => ⟨(hwd u hu).1, by have := (hwd u hu).2; omega⟩, by show mx ts < 40; rw [mx_toks e]; omega⟩ trivial (fun t j H6 F6 M6 e6 hj1 hj2 hj3 g6 ef ps6 hm6 => ?_) (fun e6 H6 F6 M6 g6 hm6 => ?_)
      · refine ⟨true, rfl, ?_⟩
        dsimp only
        rw [if_pos rfl]
        refine g_t (b := decide (tok ts j = [46])) (t_test (e_eqW (e_tok rfl ps6 g6 (by omega)) (e_w rfl))) g6 fun H7 g7 => ?_
        by_cases cj : j = ts.length
        · rw [decide_eq_true ((tok_end (fun u hu => (hwd u hu).1) hj2).mpr cj), if_pos rfl]
          subst cj
          have hre : Pl.read x = some t := by
            rw [hrp]; unfold parse
            have e7 : sumN 40 ts = some (t, ts.drop ts.length) := e6
            rw [e7, List.drop_length]
          rw [hre] at q
          refine ⟨_, rfl, s, _, 2, .ref fl, rfl, rfl, sq_of (g7.m _ _ ps6.ms), rfl, ?_⟩
          have h0 : sub H em fl = none := by
            have := g3.g.h
            rw [sub_em, sub_em] at this
            rw [sub_em]; exact this.free hfl
          have g8 := g7.give ps6.mf h0
          refine q (.ref fl) H7 _ g8.done ⟨fl, _, rfl, upd_same, ?_⟩
          exact of_wds (pst t)
        · rw [decide_eq_false (fun z => cj ((tok_end (fun u hu => (hwd u hu).1) hj2).mp z)), if_neg (by decide)]
          have hre : Pl.read x = none := by
            rw [hrp]; unfold parse
            have e7 : sumN 40 ts = some (t, ts.drop j) := e6
            rw [e7]
            have : ∃ a b, ts.drop j = a :: b := by
              cases z : ts.drop j with
              | nil => have := List.drop_eq_nil_iff.mp z; omega
              | cons a b => exact ⟨a, b, rfl⟩
            obtain ⟨a, b, z⟩ := this
            rw [z]
          rw [hre] at q
          exact g_e (en_nil (r := rWd)).e g7 fun v8 H8 F8 g8 e8 hv8 => q v8 H8 F8 g8.done hv8
      · refine ⟨false, rfl, ?_⟩
        dsimp only
        rw [if_neg (by decide), if_neg (by decide)]
        have hre : Pl.read x = none := by
          rw [hrp]; unfold parse
          have e7 : sumN 40 ts = none := e6
          rw [e7]
        rw [hre] at q
        exact g_e (en_nil (r := rWd)).e g6 fun v8 H8 F8 g8 e8 hv8 => q v8 H8 F8 g8.done hv8
end
end F1

set_option Elab.async false
set_option linter.all false
set_option autoImplicit false
set_option maxRecDepth 100000
set_option maxHeartbeats 4000000
/-! # Told beside due -/
namespace F1
open PySem L2 Y
open Pl hiding Sp Ss PA PB RA RW RP RS
/-- a whole number or a text -/
def rLf : Rp (Int ⊕ W) := fun _ v x => match x with | .inl i => v = .int i | .inr z => v = .str (S z)
instance : Mono rLf := ⟨fun {H H' v x} e h => by cases x <;> exact h⟩
section
variable {P : Program} {w : World} {K : PySem.W.Frag} {mg : Str → Option Value} {base : Heap}
/-- told and due the same -/
def spLk {α : Type} (r : Rp α) (pre : α → Prop) : Sp := fun vs H Q _ => ∃ Hk, Ex Hk H ∧ ∃ v u x, vs = [v, u] ∧ r Hk v x ∧ r Hk u x ∧ pre x ∧ Res rBl Hk H true Q
abbrev anyP {α : Type} : α → Prop := fun _ => True
abbrev allP {α : Type} (pre : α → Prop) : List α → Prop := fun l => l.length ≤ 10000 ∧ ∀ x ∈ l, pre x
theorem kIB : PySem.W.kitOne K (.type "int") (.type "bool") = some false := kit_ty (by decide +kernel)
theorem kII : PySem.W.kitOne K (.type "int") (.type "int") = some true := kit_ty (by decide +kernel)
theorem kSB : PySem.W.kitOne K (.type "str") (.type "bool") = some false := kit_ty (by decide +kernel)
theorem kSI : PySem.W.kitOne K (.type "str") (.type "int") = some false := kit_ty (by decide +kernel)
theorem kLB : PySem.W.kitOne K (.type "list") (.type "bool") = some false := kit_ty (by decide +kernel)
theorem kLI : PySem.W.kitOne K (.type "list") (.type "int") = some false := kit_ty (by decide +kernel)
theorem kLS : PySem.W.kitOne K (.type "list") (.type "str") = some false := kit_ty (by decide +kernel)
theorem kLL : PySem.W.kitOne K (.type "list") (.type "list") = some true := kit_ty (by decide +kernel)
theorem kLT : PySem.W.kitOne K (.type "list") (.type "tuple") = some false := kit_ty (by decide +kernel)
theorem kTB : PySem.W.kitOne K (.type "tuple") (.type "bool") = some false := kit_ty (by decide +kernel)
theorem kTI : PySem.W.kitOne K (.type "tuple") (.type "int") = some false := kit_ty (by decide +kernel)
theorem kTS : PySem.W.kitOne K (.type "tuple") (.type "str") = some false := kit_ty (by decide +kernel)
theorem kTL : PySem.W.kitOne K (.type "tuple") (.type "list") = some false := kit_ty (by decide +kernel)
theorem ty_I {n : Int} : ∀ H v, rInt H v n → ∀ H', Ex H H' → TyX K H' v (.type "int") := fun _ v h _ _ => by cases h; exact .base (.int _)
theorem ty_L {α : Type} {r : Rp α} {n : List α} : ∀ H v, rLst r H v n → ∀ H', Ex H H' → TyX K H' v (.type "list") := fun _ v ⟨a, vs, h, h1, _⟩ _ e => by cases h; exact .base (.lst (e _ _ h1))
theorem ty_T {α : Type} {r : Rp α} {n : List α} : ∀ H v, rTup r H v n → ∀ H', Ex H H' → TyX K H' v (.type "tuple") := fun _ v ⟨a, vs, h, h1, _⟩ _ e => by cases h; exact .base (.tup (e _ _ h1))
theorem ok__law_whole (T : Txt w K mg) : FnOk P w K mg base CX0 1 T.d__law_whole.a T.d__law_whole.fd ["told"] (sp1 rInt rBl (fun _ => True) fun _ => true) := by
  refine T.d__law_whole.F.ok sc__law_whole (fun vs H Q Ew h => ?_) (fun cdv A outer s H vs Q Ew hr h => ?_)
  · obtain ⟨_, _, v, x, rfl, _⟩ := h; rfl
  · obtain ⟨Hk, ex, v, x, rfl, hv, _, q⟩ := h
    refine ⟨_, (pss_one (ps_ret (pe_and (pe_callB (c_isiK (K := K) rfl) (by rfl) T.n_isinstance (by decide +kernel) (pa_cons (pv 0) (pa_cons (pe_bltn (v := .ty "int") (by rfl) T.n_int (by decide +kernel) rfl) pa_nil))) (pe_one (pe_not (pe_callB (c_isiK (K := K) rfl) (by rfl) T.n_isinstance (by decide +kernel) (pa_cons (pv 0) (pa_cons (pe_bltn (v := .ty "bool") (by rfl) T.n_bool (by decide +kernel) rfl) pa_nil)))))))), ?_⟩
    have v0 : E rInt (tVar 0) (L2.start ["told"] [v]) Hk x := e_var hv rfl
    exact s_ret ((e_andV (e_isi v0 (.ty _) ty_I kII) fun _ => e_notV (e_isi v0 (.ty _) ty_I kIB)).as rfl) ex q
abbrev tLk (K : PySem.W.Frag) (T : Txt w K mg) : TE := tC .non
section
variable {α : Type} {r : Rp α} {σ : L2.St} {Hk : Hp} {ta tb te : TE} {x : α} {Ew : XK}
theorem e_like [Mono r] {pre : α → Prop} (ha : E r ta σ Hk x) (hb : E r tb σ Hk x) (hp : pre x) : E rBl (tCall (spLk r pre) [] Ew (tCons ta (tCons tb tNil))) σ Hk true :=
  e_call (ea_cons ha (ea_cons hb ea_nil)) fun F H vs Q ex hp' q => by
    obtain ⟨v, ws, rfl, hv, v2, ws2, rfl, hv2, hn⟩ := hp'
    cases hn
    exact ⟨F, ex, v, v2, x, rfl, hv, hv2, hp, q⟩
theorem e_neB {a b : Bool} (ha : E rBl ta σ Hk a) (hb : E rBl tb σ Hk b) : E rBl (tOp rNe ta tb) σ Hk (a != b) := fun H e Q q => two ha hb H e _ fun v w H2 F g hv hw => by
  cases hv; cases hw
  refine ⟨rfl, q _ H2 F g ?_⟩
  show V.bl _ = V.bl _
  cases a <;> cases b <;> rfl
theorem e_lenT {xs : List α} (h : E (rTup r) te σ Hk xs) : E rInt (tCB (Y.rLen K) (tCons te tNil)) σ Hk (xs.length : Int) :=
  fun H a Q q => h H a _ fun v H2 F g ⟨b, vs, hv, hb, hp⟩ => ⟨b, vs, by rw [hv], .inr (st_of (g.f b _ hb)), q _ H2 F g (by show V.int _ = V.int _; rw [p_len hp])⟩
theorem e_atOL [Mono r] {xs : List α} {k : Nat} (ha : E (rLst r) ta σ Hk xs) (hb : E rInt tb σ Hk (k : Int)) (hx : xs[k]? = some x) : E r (tOp (fun x y H Q => rIxL K x y H Q ∨ rIxT K x y H Q) ta tb) σ Hk x :=
  fun H a Q q => two ha hb H a _ fun v w H2 F g ⟨b, vs, hv, hb, hp⟩ hw => by
    obtain ⟨y, h1, h2⟩ := p_at hp hx
    exact .inl ⟨b, vs, _, y, hv, hw, sq_of (g.f b _ hb), atI_nat h1, q y H2 F g h2⟩
theorem e_atOT [Mono r] {xs : List α} {k : Nat} (ha : E (rTup r) ta σ Hk xs) (hb : E rInt tb σ Hk (k : Int)) (hx : xs[k]? = some x) : E r (tOp (fun x y H Q => rIxL K x y H Q ∨ rIxT K x y H Q) ta tb) σ Hk x :=
  fun H a Q q => two ha hb H a _ fun v w H2 F g ⟨b, vs, hv, hb, hp⟩ hw => by
    obtain ⟨y, h1, h2⟩ := p_at hp hx
    exact .inr ⟨b, vs, _, y, hv, hw, st_of (g.f b _ hb), atI_nat h1, q y H2 F g h2⟩
/-- [] == [] -/
theorem e_eqNN {xs : List Int} (h : xs = []) (ha : E (rLst rInt) ta σ Hk xs) : E rBl (tOp (rEqD K) ta (tLst tNil)) σ Hk true := fun H e Q q => ha H e _ fun v H2 F g ⟨p, vs, hv, hp, hb⟩ => by
  subst h
  cases hb
  refine ⟨Nat.zero_le _, fun d hd => ⟨.list [], .list [], ?_, .lst (sq_of upd_same) .nil, rfl, rfl, q _ _ F ⟨g.h.trans (Ex.new hd), g.k, g.f.trans (Ex.new hd), g.n⟩ rfl⟩⟩
  rw [hv]
  have hpd : p ≠ d := fun z => by subst z; rw [g.f _ _ hp] at hd; cases hd
  exact .lst (sq_of (by rw [upd_ne hpd, g.f _ _ hp])) .nil
end
theorem ix_or {X : Cx} (h : X.K = K) : IxR X (fun x y H Q => rIxL K x y H Q ∨ rIxT K x y H Q) := IxR.or (ix_listK h) (ix_tupK h)
theorem like_leaf (T : Txt w K mg) {ks : Sp} (ok__law_like : ∀ (_ : Txt w K mg), FnOk P w K mg base CX0 0 T.d__law_like.a T.d__law_like.fd ["told", "due"] ks) : FnOk P w K mg base CX0 3 T.d__law_like.a T.d__law_like.fd ["told", "due"] (spLk rLf anyP) := by
  refine T.d__law_like.F.ok sc__law_like (fun vs H Q Ew h => ?_) (fun cdv A outer s H vs Q Ew hr h => ?_)
  · obtain ⟨_, _, _, _, _, rfl, _⟩ := h; rfl
  · obtain ⟨Hk, ex, v, u, x, rfl, hv, hu, _, q⟩ := h
    refine ⟨_, (pss_cons (ps_if (pt_val (pe_callB (c_isiK (K := K) rfl) (by rfl) T.n_isinstance (by decide +kernel) (pa_cons (pv 1) (pa_cons (pe_bltn (v := .ty "bool") (by rfl) T.n_bool (by decide +kernel) rfl) pa_nil)))) (pss_one (ps_ret (pe_and (pe_callB (c_isiK (K := K) rfl) (by rfl) T.n_isinstance (by decide +kernel) (pa_cons (pv 0) (pa_cons (pe_bltn (v := .ty "bool") (by rfl) T.n_bool (by decide +kernel) rfl) pa_nil))) (pe_one (pe_cmpR op_eq (pv 0) (pv 1) (nomark _)))))) pss_nil)
      (pss_cons (ps_if (pt_val (pe_callB (c_isiK (K := K) rfl) (by rfl) T.n_isinstance (by decide +kernel) (pa_cons (pv 1) (pa_cons (pe_bltn (v := .ty "int") (by rfl) T.n_int (by decide +kernel) rfl) pa_nil)))) (pss_one (ps_ret (pe_and (pe_call (ok__law_whole T) (hr.mono (by omega)) (by rfl) T.g__law_whole T.d__law_whole.F.kp T.d__law_whole.b .nil pass0 (pa_cons (pv 0) pa_nil)) (pe_one (pe_cmpR op_eq (pv 0) (pv 1) (nomark _)))))) pss_nil)
      (pss_cons (ps_if (pt_val (pe_callB (c_isiK (K := K) rfl) (by rfl) T.n_isinstance (by decide +kernel) (pa_cons (pv 1) (pa_cons (pe_bltn (v := .ty "str") (by rfl) T.n_str (by decide +kernel) rfl) pa_nil)))) (pss_one (ps_ret (pe_and (pe_callB (c_isiK (K := K) rfl) (by rfl) T.n_isinstance (by decide +kernel) (pa_cons (pv 0) (pa_cons (pe_bltn (v := .ty "str") (by rfl) T.n_str (by decide +kernel) rfl) pa_nil))) (pe_one (pe_cmpR op_eq (pv 0) (pv 1) (nomark _)))))) pss_nil)
      (pss_cons (ps_if (pt_cmpR op_isN (pv 1) pe_non (nomark _)) (pss_one (ps_ret (pe_cmpR op_isN (pv 0) pe_non (nomark _)))) pss_nil)
      (pss_cons (ps_if (PW.pt (pw_or (pt_cmpR op_ne (pe_callB (c_isiK (K := K) rfl) (by rfl) T.n_isinstance (by decide +kernel) (pa_cons (pv 0) (pa_cons (pe_bltn (v := .ty "list") (by rfl) T.n_list (by decide +kernel) rfl) pa_nil))) (pe_callB (c_isiK (K := K) rfl) (by rfl) T.n_isinstance (by decide +kernel) (pa_cons (pv 1) (pa_cons (pe_bltn (v := .ty "list") (by rfl) T.n_list (by decide +kernel) rfl) pa_nil))) (nomark _)) (pw_or (pt_cmpR op_ne (pe_callB (c_isiK (K := K) rfl) (by rfl) T.n_isinstance (by decide +kernel) (pa_cons (pv 0) (pa_cons (pe_bltn (v := .ty "tuple") (by rfl) T.n_tuple (by decide +kernel) rfl) pa_nil))) (pe_callB (c_isiK (K := K) rfl) (by rfl) T.n_isinstance (by decide +kernel) (pa_cons (pv 1) (pa_cons (pe_bltn (v := .ty "tuple") (by rfl) T.n_tuple (by decide +kernel) rfl) pa_nil))) (nomark _)) (pw_or1 (pt_cmpR op_ne (pe_callB (c_lenK (K := K) rfl) (by rfl) T.n_len (by decide +kernel) (pa_cons (pv 0) pa_nil)) (pe_callB (c_lenK (K := K) rfl) (by rfl) T.n_len (by decide +kernel) (pa_cons (pv 1) pa_nil)) (nomark _)))))) (pss_one (ps_ret pe_bl)) pss_nil)
      (pss_one (ps_ret (pe_cmpR (op_eqD hr.units) (pe_lc (own := [("k", 2)]) (g := gName 2) rfl sc__law_like.nd (pi_range1 (by rfl) T.n_range (pa_cons (pe_callB (c_lenK (K := K) rfl) (by rfl) T.n_len (by decide +kernel) (pa_cons (pv 1) pa_nil)) pa_nil)) (blkOk_by (N := ["told", "due", "k"]) (sc := defScope s__law_like) (by decide +kernel)) (fun _ _ _ _ _ => (pg_name (i := 2) sc__law_like.nd rfl (Or.inl rfl) (hf := Or.inr rfl))) (fun _ _ _ _ _ => (pts_one (pt_not (pt_val (pe_call (ok__law_like T) (hr.mono (by omega)) (by rfl) T.g__law_like T.d__law_like.F.kp T.d__law_like.b .nil pass0 (pa_cons (pe_ix (ix_or (K := K) rfl) (pv 0) (pv 2) (fun _ _ => rfl)) (pa_cons (pe_ix (ix_or (K := K) rfl) (pv 1) (pv 2) (fun _ _ => rfl)) pa_nil))))))) (fun _ _ _ _ _ => (pv 2))) (pe_lst pa_nil) (nomark _))))))))), ?_⟩
    cases x with
    | inl i =>
      have v0 : E rInt (tVar 0) (L2.start ["told", "due", "k"] [v, u]) Hk i := e_var hv rfl
      have v1 : E rInt (tVar 1) (L2.start ["told", "due", "k"] [v, u]) Hk i := e_var hu rfl
      refine s_if (K := Hk) (b := false) (t_b (e_isi v1 (.ty _) ty_I kIB)) ex (fun c => nomatch c) (fun _ H1 e1 => ?_)
      refine s_if (K := Hk) (b := true) (t_b (e_isi v1 (.ty _) ty_I kII)) (ex.trans e1) (fun _ H2 e2 => ?_) (fun c => nomatch c)
      exact s_ret ((e_andV (e_c1 (f := fun _ => true) v0 trivial) fun _ => e_eqI v0 v1).as (by simp)) ((ex.trans e1).trans e2) (Res.at ex (e1.trans e2) q)
    | inr z =>
      have v0 : E rW (tVar 0) (L2.start ["told", "due", "k"] [v, u]) Hk z := e_var hv rfl
      have v1 : E rW (tVar 1) (L2.start ["told", "due", "k"] [v, u]) Hk z := e_var hu rfl
      refine s_if (K := Hk) (b := false) (t_b (e_isi v1 (.ty _) ty_W kSB)) ex (fun c => nomatch c) (fun _ H1 e1 => ?_)
      refine s_if (K := Hk) (b := false) (t_b (e_isi v1 (.ty _) ty_W kSI)) (ex.trans e1) (fun c => nomatch c) (fun _ H2 e2 => ?_)
      refine s_if (K := Hk) (b := true) (t_b (e_isi v1 (.ty _) ty_W kSS)) ((ex.trans e1).trans e2) (fun _ H3 e3 => ?_) (fun c => nomatch c)
      exact s_ret ((e_andV (e_isi v0 (.ty _) ty_W kSS) fun _ => e_eqW v0 v1).as (by simp)) (((ex.trans e1).trans e2).trans e3) (Res.at ex ((e1.trans e2).trans e3) q)
theorem bad_seq {α : Type} {ys : List α} {p : Nat → Bool} (h : ∀ i, i < ys.length → p i = false) : (((List.range ys.length).filter p).map fun i => ((i : Nat) : Int)) = [] := by
  rw [List.filter_eq_nil_iff.mpr]
  · rfl
  · intro i hi
    rw [h i (List.mem_range.mp hi)]; simp
section
variable {α : Type} {r : Rp α} [Mono r] {pre : α → Prop} {k : Nat}
theorem like_lst (T : Txt w K mg) (ok__law_like : ∀ (_ : Txt w K mg), FnOk P w K mg base CX0 k T.d__law_like.a T.d__law_like.fd ["told", "due"] (spLk r pre)) : FnOk P w K mg base CX0 (k + 3) T.d__law_like.a T.d__law_like.fd ["told", "due"] (spLk (rLst r) (allP pre)) := by
  refine T.d__law_like.F.ok sc__law_like (fun vs H Q Ew h => ?_) (fun cdv A outer s H vs Q Ew hr h => ?_)
  · obtain ⟨_, _, _, _, _, rfl, _⟩ := h; rfl
  · obtain ⟨Hk, ex, v, u, xs, rfl, hv, hu, ⟨hl, hpre⟩, q⟩ := h
    refine ⟨_, (pss_cons (ps_if (pt_val (pe_callB (c_isiK (K := K) rfl) (by rfl) T.n_isinstance (by decide +kernel) (pa_cons (pv 1) (pa_cons (pe_bltn (v := .ty "bool") (by rfl) T.n_bool (by decide +kernel) rfl) pa_nil)))) (pss_one (ps_ret (pe_and (pe_callB (c_isiK (K := K) rfl) (by rfl) T.n_isinstance (by decide +kernel) (pa_cons (pv 0) (pa_cons (pe_bltn (v := .ty "bool") (by rfl) T.n_bool (by decide +kernel) rfl) pa_nil))) (pe_one (pe_cmpR op_eq (pv 0) (pv 1) (nomark _)))))) pss_nil)
      (pss_cons (ps_if (pt_val (pe_callB (c_isiK (K := K) rfl) (by rfl) T.n_isinstance (by decide +kernel) (pa_cons (pv 1) (pa_cons (pe_bltn (v := .ty "int") (by rfl) T.n_int (by decide +kernel) rfl) pa_nil)))) (pss_one (ps_ret (pe_and (pe_call (ok__law_whole T) (hr.mono (by omega)) (by rfl) T.g__law_whole T.d__law_whole.F.kp T.d__law_whole.b .nil pass0 (pa_cons (pv 0) pa_nil)) (pe_one (pe_cmpR op_eq (pv 0) (pv 1) (nomark _)))))) pss_nil)
      (pss_cons (ps_if (pt_val (pe_callB (c_isiK (K := K) rfl) (by rfl) T.n_isinstance (by decide +kernel) (pa_cons (pv 1) (pa_cons (pe_bltn (v := .ty "str") (by rfl) T.n_str (by decide +kernel) rfl) pa_nil)))) (pss_one (ps_ret (pe_and (pe_callB (c_isiK (K := K) rfl) (by rfl) T.n_isinstance (by decide +kernel) (pa_cons (pv 0) (pa_cons (pe_bltn (v := .ty "str") (by rfl) T.n_str (by decide +kernel) rfl) pa_nil))) (pe_one (pe_cmpR op_eq (pv 0) (pv 1) (nomark _)))))) pss_nil)
      (pss_cons (ps_if (pt_cmpR op_isN (pv 1) pe_non (nomark _)) (pss_one (ps_ret (pe_cmpR op_isN (pv 0) pe_non (nomark _)))) pss_nil)
      (pss_cons (ps_if (PW.pt (pw_or (pt_cmpR op_ne (pe_callB (c_isiK (K := K) rfl) (by rfl) T.n_isinstance (by decide +kernel) (pa_cons (pv 0) (pa_cons (pe_bltn (v := .ty "list") (by rfl) T.n_list (by decide +kernel) rfl) pa_nil))) (pe_callB (c_isiK (K := K) rfl) (by rfl) T.n_isinstance (by decide +kernel) (pa_cons (pv 1) (pa_cons (pe_bltn (v := .ty "list") (by rfl) T.n_list (by decide +kernel) rfl) pa_nil))) (nomark _)) (pw_or (pt_cmpR op_ne (pe_callB (c_isiK (K := K) rfl) (by rfl) T.n_isinstance (by decide +kernel) (pa_cons (pv 0) (pa_cons (pe_bltn (v := .ty "tuple") (by rfl) T.n_tuple (by decide +kernel) rfl) pa_nil))) (pe_callB (c_isiK (K := K) rfl) (by rfl) T.n_isinstance (by decide +kernel) (pa_cons (pv 1) (pa_cons (pe_bltn (v := .ty "tuple") (by rfl) T.n_tuple (by decide +kernel) rfl) pa_nil))) (nomark _)) (pw_or1 (pt_cmpR op_ne (pe_callB (c_lenK (K := K) rfl) (by rfl) T.n_len (by decide +kernel) (pa_cons (pv 0) pa_nil)) (pe_callB (c_lenK (K := K) rfl) (by rfl) T.n_len (by decide +kernel) (pa_cons (pv 1) pa_nil)) (nomark _)))))) (pss_one (ps_ret pe_bl)) pss_nil)
      (pss_one (ps_ret (pe_cmpR (op_eqD hr.units) (pe_lc (own := [("k", 2)]) (g := gName 2) rfl sc__law_like.nd (pi_range1 (by rfl) T.n_range (pa_cons (pe_callB (c_lenK (K := K) rfl) (by rfl) T.n_len (by decide +kernel) (pa_cons (pv 1) pa_nil)) pa_nil)) (blkOk_by (N := ["told", "due", "k"]) (sc := defScope s__law_like) (by decide +kernel)) (fun _ _ _ _ _ => (pg_name (i := 2) sc__law_like.nd rfl (Or.inl rfl) (hf := Or.inr rfl))) (fun _ _ _ _ _ => (pts_one (pt_not (pt_val (pe_call (ok__law_like T) (hr.mono (by omega)) (by rfl) T.g__law_like T.d__law_like.F.kp T.d__law_like.b .nil pass0 (pa_cons (pe_ix (ix_or (K := K) rfl) (pv 0) (pv 2) (fun _ _ => rfl)) (pa_cons (pe_ix (ix_or (K := K) rfl) (pv 1) (pv 2) (fun _ _ => rfl)) pa_nil))))))) (fun _ _ _ _ _ => (pv 2))) (pe_lst pa_nil) (nomark _))))))))), ?_⟩
    have v0 : ∀ {a : Option V} {F}, Ex Hk F → E (rLst r) (tVar 0) [some v, some u, a] F xs := fun e => e_var (up e hv) rfl
    have v1 : ∀ {a : Option V} {F}, Ex Hk F → E (rLst r) (tVar 1) [some v, some u, a] F xs := fun e => e_var (up e hu) rfl
    have w0 := fun {a} => @v0 a Hk (Ex.refl Hk)
    have w1 := fun {a} => @v1 a Hk (Ex.refl Hk)
    refine s_if (K := Hk) (b := false) (t_b (e_isi w1 (.ty _) ty_L kLB)) ex (fun c => nomatch c) (fun _ H1 e1 => ?_)
    refine s_if (K := Hk) (b := false) (t_b (e_isi w1 (.ty _) ty_L kLI)) (ex.trans e1) (fun c => nomatch c) (fun _ H2 e2 => ?_)
    refine s_if (K := Hk) (b := false) (t_b (e_isi w1 (.ty _) ty_L kLS)) ((ex.trans e1).trans e2) (fun c => nomatch c) (fun _ H3 e3 => ?_)
    have isn : Y.T (tTest (tOp (fun x y H Q => y = V.non ∧ Q (.bl (decide (x = .non))) H) (tVar 1) (tC .non))) (L2.start ["told", "due", "k"] [v, u]) Hk false := by
      obtain ⟨a, vs, hv1, _⟩ := hu
      exact t_test (fun H e Q q => ⟨u, rfl, rfl, q _ H Hk (Grow.refl e) (by subst hv1; rfl)⟩)
    refine s_if (K := Hk) (b := false) isn (((ex.trans e1).trans e2).trans e3) (fun c => nomatch c) (fun _ H4 e4 => ?_)
    refine s_if (K := Hk) (b := false) ((t_or (t_test (e_neB (e_isi w0 (.ty _) ty_L kLL) (e_isi w1 (.ty _) ty_L kLL))) fun _ => t_or (t_test (e_neB (e_isi w0 (.ty _) ty_L kLT) (e_isi w1 (.ty _) ty_L kLT))) fun _ => t_test (e_neI (e_len w0) (e_len w1))).as (by simp)) ((((ex.trans e1).trans e2).trans e3).trans e4) (fun c => nomatch c) (fun _ H5 e5 => ?_)
    refine s_ret (e_eqNN rfl ((en_lc (p := fun _ => false) (f := fun i => ((i : Nat) : Int)) (it_range1 (e_len w1) (by omega) (by omega)) (by omega) fun i vi F hi e hR => ?_).e.as ?_)) (((((ex.trans e1).trans e2).trans e3).trans e4).trans e5) (Res.at ex ((((e1.trans e2).trans e3).trans e4).trans e5) q)
    · cases hR
      have hi2 : i < xs.length := by omega
      refine ⟨_, tg_name (j := 2), rfl, t_not (a := true) (t_b (e_like (e_atOL (v0 e) (e_var rfl rfl) (List.getElem?_eq_getElem hi2)) (e_atOL (v1 e) (e_var rfl rfl) (List.getElem?_eq_getElem hi2)) (hpre _ (List.getElem_mem hi2)))), fun z => nomatch z⟩
    · simp
theorem like_tup (T : Txt w K mg) (ok__law_like : ∀ (_ : Txt w K mg), FnOk P w K mg base CX0 k T.d__law_like.a T.d__law_like.fd ["told", "due"] (spLk r pre)) : FnOk P w K mg base CX0 (k + 3) T.d__law_like.a T.d__law_like.fd ["told", "due"] (spLk (rTup r) (allP pre)) := by
  refine T.d__law_like.F.ok sc__law_like (fun vs H Q Ew h => ?_) (fun cdv A outer s H vs Q Ew hr h => ?_)
  · obtain ⟨_, _, _, _, _, rfl, _⟩ := h; rfl
  · obtain ⟨Hk, ex, v, u, xs, rfl, hv, hu, ⟨hl, hpre⟩, q⟩ := h
    refine ⟨_, (pss_cons (ps_if (pt_val (pe_callB (c_isiK (K := K) rfl) (by rfl) T.n_isinstance (by decide +kernel) (pa_cons (pv 1) (pa_cons (pe_bltn (v := .ty "bool") (by rfl) T.n_bool (by decide +kernel) rfl) pa_nil)))) (pss_one (ps_ret (pe_and (pe_callB (c_isiK (K := K) rfl) (by rfl) T.n_isinstance (by decide +kernel) (pa_cons (pv 0) (pa_cons (pe_bltn (v := .ty "bool") (by rfl) T.n_bool (by decide +kernel) rfl) pa_nil))) (pe_one (pe_cmpR op_eq (pv 0) (pv 1) (nomark _)))))) pss_nil)
      (pss_cons (ps_if (pt_val (pe_callB (c_isiK (K := K) rfl) (by rfl) T.n_isinstance (by decide +kernel) (pa_cons (pv 1) (pa_cons (pe_bltn (v := .ty "int") (by rfl) T.n_int (by decide +kernel) rfl) pa_nil)))) (pss_one (ps_ret (pe_and (pe_call (ok__law_whole T) (hr.mono (by omega)) (by rfl) T.g__law_whole T.d__law_whole.F.kp T.d__law_whole.b .nil pass0 (pa_cons (pv 0) pa_nil)) (pe_one (pe_cmpR op_eq (pv 0) (pv 1) (nomark _)))))) pss_nil)
      (pss_cons (ps_if (pt_val (pe_callB (c_isiK (K := K) rfl) (by rfl) T.n_isinstance (by decide +kernel) (pa_cons (pv 1) (pa_cons (pe_bltn (v := .ty "str") (by rfl) T.n_str (by decide +kernel) rfl) pa_nil)))) (pss_one (ps_ret (pe_and (pe_callB (c_isiK (K := K) rfl) (by rfl) T.n_isinstance (by decide +kernel) (pa_cons (pv 0) (pa_cons (pe_bltn (v := .ty "str") (by rfl) T.n_str (by decide +kernel) rfl) pa_nil))) (pe_one (pe_cmpR op_eq (pv 0) (pv 1) (nomark _)))))) pss_nil)
      (pss_cons (ps_if (pt_cmpR op_isN (pv 1) pe_non (nomark _)) (pss_one (ps_ret (pe_cmpR op_isN (pv 0) pe_non (nomark _)))) pss_nil)
      (pss_cons (ps_if (PW.pt (pw_or (pt_cmpR op_ne (pe_callB (c_isiK (K := K) rfl) (by rfl) T.n_isinstance (by decide +kernel) (pa_cons (pv 0) (pa_cons (pe_bltn (v := .ty "list") (by rfl) T.n_list (by decide +kernel) rfl) pa_nil))) (pe_callB (c_isiK (K := K) rfl) (by rfl) T.n_isinstance (by decide +kernel) (pa_cons (pv 1) (pa_cons (pe_bltn (v := .ty "list") (by rfl) T.n_list (by decide +kernel) rfl) pa_nil))) (nomark _)) (pw_or (pt_cmpR op_ne (pe_callB (c_isiK (K := K) rfl) (by rfl) T.n_isinstance (by decide +kernel) (pa_cons (pv 0) (pa_cons (pe_bltn (v := .ty "tuple") (by rfl) T.n_tuple (by decide +kernel) rfl) pa_nil))) (pe_callB (c_isiK (K := K) rfl) (by rfl) T.n_isinstance (by decide +kernel) (pa_cons (pv 1) (pa_cons (pe_bltn (v := .ty "tuple") (by rfl) T.n_tuple (by decide +kernel) rfl) pa_nil))) (nomark _)) (pw_or1 (pt_cmpR op_ne (pe_callB (c_lenK (K := K) rfl) (by rfl) T.n_len (by decide +kernel) (pa_cons (pv 0) pa_nil)) (pe_callB (c_lenK (K := K) rfl) (by rfl) T.n_len (by decide +kernel) (pa_cons (pv 1) pa_nil)) (nomark _)))))) (pss_one (ps_ret pe_bl)) pss_nil)
      (pss_one (ps_ret (pe_cmpR (op_eqD hr.units) (pe_lc (own := [("k", 2)]) (g := gName 2) rfl sc__law_like.nd (pi_range1 (by rfl) T.n_range (pa_cons (pe_callB (c_lenK (K := K) rfl) (by rfl) T.n_len (by decide +kernel) (pa_cons (pv 1) pa_nil)) pa_nil)) (blkOk_by (N := ["told", "due", "k"]) (sc := defScope s__law_like) (by decide +kernel)) (fun _ _ _ _ _ => (pg_name (i := 2) sc__law_like.nd rfl (Or.inl rfl) (hf := Or.inr rfl))) (fun _ _ _ _ _ => (pts_one (pt_not (pt_val (pe_call (ok__law_like T) (hr.mono (by omega)) (by rfl) T.g__law_like T.d__law_like.F.kp T.d__law_like.b .nil pass0 (pa_cons (pe_ix (ix_or (K := K) rfl) (pv 0) (pv 2) (fun _ _ => rfl)) (pa_cons (pe_ix (ix_or (K := K) rfl) (pv 1) (pv 2) (fun _ _ => rfl)) pa_nil))))))) (fun _ _ _ _ _ => (pv 2))) (pe_lst pa_nil) (nomark _))))))))), ?_⟩
    have v0 : ∀ {a : Option V} {F}, Ex Hk F → E (rTup r) (tVar 0) [some v, some u, a] F xs := fun e => e_var (up e hv) rfl
    have v1 : ∀ {a : Option V} {F}, Ex Hk F → E (rTup r) (tVar 1) [some v, some u, a] F xs := fun e => e_var (up e hu) rfl
    have w0 := fun {a} => @v0 a Hk (Ex.refl Hk)
    have w1 := fun {a} => @v1 a Hk (Ex.refl Hk)
    refine s_if (K := Hk) (b := false) (t_b (e_isi w1 (.ty _) ty_T kTB)) ex (fun c => nomatch c) (fun _ H1 e1 => ?_)
    refine s_if (K := Hk) (b := false) (t_b (e_isi w1 (.ty _) ty_T kTI)) (ex.trans e1) (fun c => nomatch c) (fun _ H2 e2 => ?_)
    refine s_if (K := Hk) (b := false) (t_b (e_isi w1 (.ty _) ty_T kTS)) ((ex.trans e1).trans e2) (fun c => nomatch c) (fun _ H3 e3 => ?_)
    have isn : Y.T (tTest (tOp (fun x y H Q => y = V.non ∧ Q (.bl (decide (x = .non))) H) (tVar 1) (tC .non))) (L2.start ["told", "due", "k"] [v, u]) Hk false := by
      obtain ⟨a, vs, hv1, _⟩ := hu
      exact t_test (fun H e Q q => ⟨u, rfl, rfl, q _ H Hk (Grow.refl e) (by subst hv1; rfl)⟩)
    refine s_if (K := Hk) (b := false) isn (((ex.trans e1).trans e2).trans e3) (fun c => nomatch c) (fun _ H4 e4 => ?_)
    refine s_if (K := Hk) (b := false) ((t_or (t_test (e_neB (e_isi w0 (.ty _) ty_T kTL) (e_isi w1 (.ty _) ty_T kTL))) fun _ => t_or (t_test (e_neB (e_isi w0 (.ty _) ty_T kTT) (e_isi w1 (.ty _) ty_T kTT))) fun _ => t_test (e_neI (e_lenT w0) (e_lenT w1))).as (by simp)) ((((ex.trans e1).trans e2).trans e3).trans e4) (fun c => nomatch c) (fun _ H5 e5 => ?_)
    refine s_ret (e_eqNN rfl ((en_lc (p := fun _ => false) (f := fun i => ((i : Nat) : Int)) (it_range1 (e_lenT w1) (by omega) (by omega)) (by omega) fun i vi F hi e hR => ?_).e.as ?_)) (((((ex.trans e1).trans e2).trans e3).trans e4).trans e5) (Res.at ex ((((e1.trans e2).trans e3).trans e4).trans e5) q)
    · cases hR
      have hi2 : i < xs.length := by omega
      refine ⟨_, tg_name (j := 2), rfl, t_not (a := true) (t_b (e_like (e_atOT (v0 e) (e_var rfl rfl) (List.getElem?_eq_getElem hi2)) (e_atOT (v1 e) (e_var rfl rfl) (List.getElem?_eq_getElem hi2)) (hpre _ (List.getElem_mem hi2)))), fun z => nomatch z⟩
    · simp
end
end
end F1

set_option Elab.async false
set_option linter.all false
set_option autoImplicit false
set_option maxRecDepth 100000
set_option maxHeartbeats 4000000
/-! # Put in, by the law; the calls that are due -/
namespace F1
open PySem L2 Y
open Pl hiding Sp Ss PA PB RA RW RP RS
/-- a dict of one formula -/
def rTabF : Rp (W × Tr) := fun H v p => ∃ d tv, v = .ref d ∧ H d = some (.dK [(.inr (S p.1), tv)]) ∧ rF H tv p.2
instance : Mono rTabF := ⟨fun e ⟨d, tv, h1, h2, h3⟩ => ⟨d, tv, h1, e _ _ h2, up (r := rF) e h3⟩⟩
theorem w_name {s : Stp} (h : okS s) {n : W} (hn : isName n = true) : s.w = n ↔ s = .name n := by
  obtain ⟨n0, n1⟩ := name_nsg hn
  constructor
  · intro e
    cases s with
    | name z => rw [show z = n from e]
    | num z =>
      exfalso
      have hz : figs n = true := by rw [← e]; exact h
      have h2 := figs_dig hz
      cases n with
      | nil => exact n0 rfl
      | cons c r =>
        have h3 := h2.2 c List.mem_cons_self
        have h4 : let_ c = true := by
          unfold isName at hn
          simp only [Bool.and_eq_true] at hn
          first | exact hn.1.1 | exact hn.1.1.1 | exact hn.1.1.2 | exact hn.1.2
        unfold dig at h3; unfold let_ at h4
        simp at h3 h4; omega
    | call z =>
      exfalso
      have hz : isCall n = true := by rw [← e]; exact h
      have h2 : n ∈ keptW := by
        have h3 : n ∈ calls := by simpa [isCall] using hz
        revert h3
        unfold calls keptW
        simp only [List.mem_cons, List.mem_nil_iff, or_false]
        intro h3
        rcases h3 with h3 | h3 | h3 | h3 | h3 | h3 <;> simp [h3]
      have h5 := name_eq n
      rw [hn, decide_eq_true h2] at h5
      simp at h5
    | neg =>
      exfalso
      have : n = [126] := e.symm
      subst this
      exact absurd (n1 126 List.mem_cons_self) (by decide)
    | pow d =>
      exfalso
      have : n = [94, 48 + d] := e.symm
      subst this
      exact absurd (n1 94 List.mem_cons_self) (by decide)
    | op o =>
      exfalso
      have : n = [o.c] := e.symm
      subst this
      have := n1 o.c List.mem_cons_self
      cases o <;> revert this <;> decide
  · intro e; subst e; rfl
def putS (n : W) (u : Tr) (l : List Stp) : List Stp := l.flatMap fun s => if s = .name n then pst u else [s]
theorem put_pst (n : W) (u : Tr) : ∀ t : Tr, putS n u (pst t) = pst (put n u t)
  | .num s => by simp [putS, pst, put]
  | .name s => by
    by_cases h : s = n
    · subst h; simp [putS, pst, put]
    · simp [putS, pst, put, h]
  | .call s t => by
    have := put_pst n u t
    unfold putS at this ⊢
    simp [pst, put, List.flatMap_append, this]
  | .neg t => by
    have := put_pst n u t
    unfold putS at this ⊢
    simp [pst, put, List.flatMap_append, this]
  | .pow t d => by
    have := put_pst n u t
    unfold putS at this ⊢
    simp [pst, put, List.flatMap_append, this]
  | .op o l r => by
    have h1 := put_pst n u l
    have h2 := put_pst n u r
    unfold putS at h1 h2 ⊢
    simp [pst, put, List.flatMap_append, h1, h2]
def cd (p : W × Tr) : List (Int ⊕ W) := [.inr p.1, .inr (txt p.2)]
section
variable {P : Program} {w : World} {K : PySem.W.Frag} {mg : Str → Option Value} {base : Heap}
def likeSp : Sp := fun vs H Q E => spLk rLf anyP vs H Q E ∨ spLk (rTup rLf) (allP anyP) vs H Q E ∨ spLk (rLst (rTup rLf)) (allP (allP anyP)) vs H Q E
theorem ok__law_like (T : Txt w K mg) : FnOk P w K mg base CX0 9 T.d__law_like.a T.d__law_like.fd ["told", "due"] likeSp := by
  have a0 : FnOk P w K mg base CX0 3 T.d__law_like.a T.d__law_like.fd ["told", "due"] (spLk rLf anyP) := like_leaf T fun _ => FnOk.never
  have a1 : FnOk P w K mg base CX0 6 T.d__law_like.a T.d__law_like.fd ["told", "due"] (spLk (rTup rLf) (allP anyP)) := like_tup T fun _ => a0
  have a2 : FnOk P w K mg base CX0 9 T.d__law_like.a T.d__law_like.fd ["told", "due"] (spLk (rLst (rTup rLf)) (allP (allP anyP))) := like_lst T fun _ => a1
  have b0 := a0.mono (k := 9) (by decide)
  have b1 := a1.mono (k := 9) (by decide)
  exact ⟨fun vs H Q E h => h.elim (b0.len vs H Q E) fun h => h.elim (b1.len vs H Q E) (a2.len vs H Q E),
    fun A outer s H args us vs Q E hr he hb hv h => h.elim (b0.run A outer s H args us vs Q E hr he hb hv) fun h => h.elim (b1.run A outer s H args us vs Q E hr he hb hv) (a2.run A outer s H args us vs Q E hr he hb hv)⟩
theorem ok__law_put (T : Txt w K mg) : FnOk P w K mg base CX0 1 T.d__law_put.a T.d__law_put.fd ["formula", "known"] (sp2 rF rTabF rF (fun t p => ok t ∧ isName p.1 = true ∧ size t ≤ 1000 ∧ size (put p.1 p.2 t) ≤ 1000) fun t p => put p.1 p.2 t) := by
  refine T.d__law_put.F.ok sc__law_put (fun vs H Q Ew h => ?_) (fun cdv A outer s H vs Q Ew hr h => ?_)
  · obtain ⟨_, _, v, x, v2, y, rfl, _⟩ := h; rfl
  · obtain ⟨Hk, ex, v, t, v2, ⟨n, u⟩, rfl, hv, hd, ⟨hok, hn, hz, hz2⟩, q⟩ := h
    refine ⟨_, (pss_cons (ps_set (i := 2) sc__law_put.nd rfl (Or.inl rfl) (pe_lst pa_nil))
      (pss_cons (ps_for PassesOwn.never rfl (pi_list (pv 0)) (pg_name (i := 3) sc__law_put.nd rfl (Or.inl rfl) (hf := Or.inr rfl))
      (pss_one (ps_set (i := 2) sc__law_put.nd rfl (Or.inl rfl) (pe_op op_cat (pv 2) (pe_dget2 (hu_of hr) (pv 1) (pv 3) (pe_lst (pa_cons (pv 3) pa_nil)) ⟨rfl, rfl, rfl, rfl⟩)))))
      (pss_one (ps_ret (pv 2))))), ?_⟩
    have hz2 : size (put n u t) ≤ 1000 := hz2
    have hlen : (putS n u (pst t)).length ≤ 1000 := by
      rw [put_pst]
      have := (size_nodes (put n u t)).1
      unfold nodes at this
      omega
    refine g_set (K := Hk) (r := rLst rWd) (x := []) (en_nil (r := rWd)).e (GM.start ex) fun v1 H1 F1 g1 e1 hv1 => ?_
    dsimp only [List.set, L2.start]
    refine g_for (K := F1) (r := rWd) (e_F (e_var (up (r := rF) e1 hv) rfl)) g1 (fun rest F M' σ' => ∃ (done : List Stp) (mv : V) (a : Option V), pst t = done ++ rest ∧ σ' = [some v, some v2, some mv, a] ∧ Ex Hk F ∧ rLst rWd F mv (putS n u done))
      (fun F e => ⟨[], v1, none, rfl, rfl, e1.trans e, up (r := rLst rWd) e hv1⟩) (fun l F F' M' σ' e ⟨dn, mv, a, i1, i2, i3, i4⟩ => ⟨dn, mv, a, i1, i2, i3.trans e, up (r := rLst rWd) e i4⟩) ?_ ?_
    · rintro F0 e0 st rest sv F M' σ' H' ⟨dn, mv, a, jj, rfl, i3, i4⟩ g ef hst
      cases hst
      dsimp only [gName, List.set]
      have jj2 : pst t = (dn ++ [st]) ++ rest := by rw [jj]; simp
      have hos : okS st := okS_pst hok st (by rw [jj]; simp)
      obtain ⟨d, tv, rfl, hd1, hd2⟩ := up (r := rTabF) i3 hd
      have eg : E (rLst rWd) (tDGet2 (tVar 1) (tVar 3) (tLst (tCons (tVar 3) tNil))) [some v, some (.ref d), some mv, some (.str (S st.w))] F (if st = .name n then pst u else [st]) := fun H e Q q => by
        refine ⟨.ref d, rfl, d, rfl, .inl ⟨_, .inl (e _ _ hd1)⟩, .str (S st.w), rfl, (en_one (r := rWd) (x := st) (e_var (r := rWd) rfl rfl)).e H e _ fun v3 H3 F3 g3 hv3 => ?_⟩
        refine ⟨valV [((.inr (S n) : L2.Key), tv)] (.inr (S st.w)), .inl ⟨_, .inr (S st.w), .inl (g3.f _ _ (g3.k _ _ hd1)), rfl, rfl⟩, ?_⟩
        by_cases c : st = .name n
        · rw [if_pos c] at q
          subst c
          have : valV [((.inr (S n) : L2.Key), tv)] (.inr (S (Stp.name n).w)) = some tv := by simp [valV, Stp.w]
          rw [this]
          exact q _ _ F3 g3 (up (r := rF) g3.k hd2)
        · rw [if_neg c] at q
          have : valV [((.inr (S n) : L2.Key), tv)] (.inr (S st.w)) = none := by
            have : ¬ n = st.w := fun z => c ((w_name hos hn).mp z.symm)
            simp [valV, S_inj, this]
          rw [this]
          exact q _ _ F3 g3 hv3
      have hl2 : (putS n u dn).length + (if st = .name n then pst u else [st]).length ≤ 1000 := by
        have : putS n u (pst t) = putS n u dn ++ ((if st = .name n then pst u else [st]) ++ putS n u rest) := by rw [jj]; simp [putS, List.flatMap_append, List.flatMap_cons]
        have h3 := congrArg List.length this
        simp only [List.length_append] at h3
        omega
      refine g_set (K := F) (r := rLst rWd) (x := putS n u dn ++ (if st = .name n then pst u else [st])) (en_cat (e_var i4 rfl) eg (by omega)).e g fun v3 H3 F3 g3 e3 hv3 => ?_
      exact ⟨F3, M', g3, ef.trans e3, dn ++ [st], v3, _, jj2, rfl, i3.trans e3, by
        have : putS n u (dn ++ [st]) = putS n u dn ++ (if st = .name n then pst u else [st]) := by simp [putS, List.flatMap_append]
        rw [this]; exact hv3⟩
    · rintro F M' σ' H' ⟨dn, mv, a, jj, rfl, i3, i4⟩ g ef
      rw [List.append_nil] at jj
      subst jj
      rw [put_pst] at i4
      exact ⟨mv, rfl, q mv H' F g.done i4⟩
section
variable {σ : L2.St} {Hk : Hp} {ta tb : TE}
theorem e_lfW {z : W} (h : E rW ta σ Hk z) : E rLf ta σ Hk (.inr z) := fun H e Q q => h H e Q fun v H2 F g hv => q v H2 F g hv
theorem e_lfI {i : Int} (h : E rInt ta σ Hk i) : E rLf ta σ Hk (.inl i) := fun H e Q q => h H e Q fun v H2 F g hv => q v H2 F g hv
theorem e_tupLf {x y : Int ⊕ W} (h1 : E rLf ta σ Hk x) (h2 : E rLf tb σ Hk y) : E (rTup rLf) (tTup (tCons ta (tCons tb tNil))) σ Hk [x, y] := fun H e Q q => two h1 h2 H e _ fun v w H2 F g hv hw =>
  ⟨two_le, fun p hp => q (.ref p) _ _ (g.new hp) ⟨p, _, rfl, upd_same, .cons (up (Ex.new (g.f.free hp)) hv) (.cons (up (Ex.new (g.f.free hp)) hw) .nil)⟩⟩
end
theorem ok__law_calls_due (T : Txt w K mg) : FnOk P w K mg base CX0 4 T.d__law_calls_due.a T.d__law_calls_due.fd ["formula"] (sp1 rF (rLst (rTup rLf)) preT fun t => (callsOf t).map cd) := by
  refine T.d__law_calls_due.F.ok sc__law_calls_due (fun vs H Q Ew h => ?_) (fun cdv A outer s H vs Q Ew hr h => ?_)
  · obtain ⟨_, _, v, x, rfl, _⟩ := h; rfl
  · obtain ⟨Hk, ex, v, t, rfl, hv, ⟨hd, hz⟩, q⟩ := h
    refine ⟨_, (pss_cons (ps_set (i := 1) sc__law_calls_due.nd rfl (Or.inl rfl) (pe_lst pa_nil))
      (pss_cons (ps_set (i := 2) sc__law_calls_due.nd rfl (Or.inl rfl) (pe_lst pa_nil))
      (pss_cons (ps_for PassesOwn.never rfl (pi_list (pv 0)) (pg_name (i := 3) sc__law_calls_due.nd rfl (Or.inl rfl) (hf := Or.inr rfl))
      (pss_one (ps_if (pt_cmpR op_in_seq (pv 3) (pe_tup (pa_cons pe_str (pa_cons pe_str (pa_cons pe_str (pa_cons pe_str pa_nil))))) (by rfl)) (pss_cons (ps_set (i := 4) sc__law_calls_due.nd rfl (Or.inl rfl) (pe_bm0 PySem.F.plainAttrs_list PySem.F.slot_list_pop PySem.F.type_list_pop mt_pop (pv 1)))
      (pss_one (ps_expr (pe_bm PySem.F.plainAttrs_list PySem.F.slot_list_append PySem.F.type_list_append mt_append (pv 1) (pa_cons (pe_op op_cat (pe_op op_cat (pe_bm0 PySem.F.plainAttrs_list PySem.F.slot_list_pop PySem.F.type_list_pop mt_pop (pv 1)) (pv 4)) (pe_lst (pa_cons (pv 3) pa_nil))) pa_nil))))) (pss_one (ps_if (PW.pt (pw_or (pt_cmpR op_eq (pv 3) pe_str (nomark _)) (pw_or (pt_cmpR op_eq (pe_ix ix_str (pv 3) pe_int (fun _ _ => rfl)) pe_str (nomark _)) (pw_or1 (pt_val (pe_call (ok__law_is_call T) (hr.mono (by decide)) (by rfl) T.g__law_is_call T.d__law_is_call.F.kp T.d__law_is_call.b .nil pass0 (pa_cons (pv 3) pa_nil))))))) (pss_cons (ps_set (i := 5) sc__law_calls_due.nd rfl (Or.inl rfl) (pe_bm0 PySem.F.plainAttrs_list PySem.F.slot_list_pop PySem.F.type_list_pop mt_pop (pv 1)))
      (pss_cons (ps_if (pt_val (pe_call (ok__law_is_call T) (hr.mono (by decide)) (by rfl) T.g__law_is_call T.d__law_is_call.F.kp T.d__law_is_call.b .nil pass0 (pa_cons (pv 3) pa_nil))) (pss_one (ps_expr (pe_bm PySem.F.plainAttrs_list PySem.F.slot_list_append PySem.F.type_list_append mt_append (pv 2) (pa_cons (pe_tup (pa_cons (pv 3) (pa_cons (pe_call (ok__law_text T) (hr.mono (by decide)) (by rfl) T.g__law_text T.d__law_text.F.kp T.d__law_text.b .nil pass0 (pa_cons (pv 5) pa_nil)) pa_nil))) pa_nil)))) pss_nil)
      (pss_one (ps_expr (pe_bm PySem.F.plainAttrs_list PySem.F.slot_list_append PySem.F.type_list_append mt_append (pv 1) (pa_cons (pe_op op_cat (pv 5) (pe_lst (pa_cons (pv 3) pa_nil))) pa_nil)))))) (pss_one (ps_expr (pe_bm PySem.F.plainAttrs_list PySem.F.slot_list_append PySem.F.type_list_append mt_append (pv 1) (pa_cons (pe_lst (pa_cons (pv 3) pa_nil)) pa_nil)))))))))
      (pss_one (ps_ret (pv 2)))))), ?_⟩
    refine g_nil (GM.start ex) fun o ho g0 => ?_
    dsimp only
    refine g_nil g0 fun m hm g1 => ?_
    dsimp only [List.set, L2.start]
    have hmo : m ≠ o := fun z => by subst z; rw [upd_same] at hm; cases hm
    have hm0 : H m = none := by rwa [upd_ne hmo] at hm
    refine g_for (K := Hk) (r := rWd) (e_F (e_var hv rfl)) g1 (fun rest F M' σ' => ∃ (L : List Tr) (us : List V) (a b c : Option V), σ' = [some v, some (.ref o), some (.ref m), a, b, c] ∧ Stk t rest L ∧ OnS rF M' F o L ∧ M' m = some (.lst us) ∧ Paired (rTup rLf F) us ((L.reverse.flatMap callsOf).map cd))
      (fun F e => ⟨[], [], none, none, none, rfl, .start hd, ⟨[], by rw [upd_ne (Ne.symm hmo), upd_same], .nil⟩, upd_same, .nil⟩) (fun l F F' M' σ' e ⟨L, us, a, b, c, i1, i2, i3, i4, i5⟩ => ⟨L, us, a, b, c, i1, i2, i3.up e, i4, p_up e i5⟩) ?_ ?_
    · rintro F0 e0 st rest sv F M' σ' H' ⟨L, us, a, b, c, rfl, hk, hs, hus, hp⟩ g ef hst
      cases hst
      show tIfS _ _ _ _ _ _
      dsimp only [List.set]
      have hL : L.length ≤ 1000 := by have := hk.len; omega
      have hos := hk.os st List.mem_cons_self
      have hwl := w_len hos
      have k0 : ∀ {F b c}, E rW (tVar 3) [some v, some (.ref o), some (.ref m), some (.str (S st.w)), b, c] F st.w := e_var rfl rfl
      have hnl : ∀ x ∈ L, (pst x).length ≤ 1000 := fun x hx => by have := hk.mem hx; have := (size_nodes x).1; unfold nodes at this; omega
      refine g_if ((t_test (e_inT (l := [[43], [45], [42], [47]]) k0 (ea_w (e_w rfl) (ea_w (e_w rfl) (ea_w (e_w rfl) (ea_w (e_w rfl) ea_w0)))) (by decide))).as (w_opr hos.1)) g (fun c1 H1 g1 => ?_) (fun c1 H1 g1 => ?_)
      · cases st with
        | op q2 =>
          obtain ⟨rr, ll, L, rfl, hul, hur, hk2⟩ := hk.op
          have n1 := hnl rr List.mem_cons_self
          have n2 := hnl ll (List.mem_cons_of_mem _ List.mem_cons_self)
          refine g_pops (r := rF) (o_var rfl) hs g1 fun rv H6 M6 hrv g6 hs6 hm6 => ?_
          dsimp only [List.set]
          refine g_stkA (o_var rfl) ⟨_, hs6.choose_spec.1⟩ g6 ?_
          refine g_pops (r := rF) (o_var rfl) hs6 g6 fun lv H7 M7 hlv g7 hs7 hm7 => ?_
          refine g_e (K := F) (r := rLst rWd) (te := tOp rCat (tOp rCat (tC lv) (tVar 4)) (tLst (tCons (tVar 3) tNil))) (x := (pst ll ++ pst rr) ++ [.op q2]) (en_cat (en_cat (e_c hlv) (e_var hrv rfl) (by omega)).e (en_one (r := rWd) (x := Stp.op q2) (e_var (r := rWd) rfl rfl)).e (by rw [List.length_append]; show _ + 1 ≤ _; omega)).e g7 fun v8 H8 F8 g8 e8 hv8 => ?_
          refine g_pushS (r := rF) (u := .op q2 ll rr) (hs7.up e8) (by simp at hL; omega) g8 hv8 fun H9 M9 g9 hs9 hm9 => ?_
          refine ⟨F8, M9, g9, ef.trans e8, _, us, _, _, _, rfl, hk2, hs9, by rw [hm9 m hmo, hm7 m hmo, hm6 m hmo]; exact hus, ?_⟩
          have : (Tr.op q2 ll rr :: L).reverse.flatMap callsOf = (rr :: ll :: L).reverse.flatMap callsOf := by simp [List.flatMap_append, callsOf]
          rw [this]
          exact p_up e8 hp
        | _ => cases c1
      obtain ⟨c0, r0, hw0, hp0⟩ := w_hd hos.1
      have kc : ∀ {F b c}, Y.T (tB (tCall (sp1 rW rBl (fun _ => True) isCall) [] E0 (tCons (tVar 3) tNil))) [some v, some (.ref o), some (.ref m), some (.str (S st.w)), b, c] F (tCal st) := fun {F b c} => (t_b (e_isCall T k0)).as (w_call hos.1)
      refine g_if (b := tNeg st || (tPow st || tCal st)) (t_or ((t_test (e_eqW k0 (e_w rfl))).as (w_neg hos.1)) fun _ => t_or (t_test ((e_eqW (a := [c0]) (b := [94]) (e_atW (k := 0) k0 e_int (Int.le_refl _) (by rw [hw0]; rfl) (by omega)) (e_w rfl)).as (by rw [← hp0]; simp))) fun _ => kc) g1 (fun c3 H3 g3 => ?_) (fun c3 H3 g3 => ?_)
      · obtain ⟨x, L1, y, rfl, hx, hk2, hpy, hcy⟩ : ∃ x L1 y, L = x :: L1 ∧ okd x ∧ Stk t rest (y :: L1) ∧ pst y = pst x ++ [st] ∧ callsOf y = callsOf x ++ if tCal st then [(st.w, x)] else [] := by
          cases st with
          | neg => obtain ⟨x, L, rfl, hu, hk2⟩ := hk.neg; exact ⟨x, L, _, rfl, hu, hk2, rfl, by simp [callsOf, tCal]⟩
          | pow d => obtain ⟨_, x, L, rfl, hu, hk2⟩ := hk.pow; exact ⟨x, L, _, rfl, hu, hk2, rfl, by simp [callsOf, tCal]⟩
          | call z => obtain ⟨_, x, L, rfl, hu, hk2⟩ := hk.call; exact ⟨x, L, _, rfl, hu, hk2, rfl, by simp [callsOf, tCal, Stp.w]⟩
          | _ => cases c3
        have n1 := hnl x List.mem_cons_self
        have hx2 := hk.mem (u := x) List.mem_cons_self
        refine g_pops (r := rF) (o_var rfl) hs g3 fun xv H5 M5 hxv g5 hs5 hm5 => ?_
        dsimp only [List.set]
        have push : ∀ (us2 : List V) H6 F6 M6, GM Hk H em F6 H6 M6 → Ex F F6 → M6 m = some (.lst us2) → OnS rF M6 F6 o L1 → Paired (rTup rLf F6) us2 (((y :: L1).reverse.flatMap callsOf).map cd) → tDrop (tBM K "list" rAppend (tVar 1) (tCons (tOp rCat (tVar 5) (tLst (tCons (tVar 3) tNil))) tNil)) { nx := fun σ2 H2 => ∃ F2 M2, GM Hk H em F2 H2 M2 ∧ Ex F0 F2 ∧ ∃ (L : List Tr) (us : List V) (a b c : Option V), σ2 = [some v, some (.ref o), some (.ref m), a, b, c] ∧ Stk t rest L ∧ OnS rF M2 F2 o L ∧ M2 m = some (.lst us) ∧ Paired (rTup rLf F2) us ((L.reverse.flatMap callsOf).map cd), rt := Q } [some v, some (.ref o), some (.ref m), some (.str (S st.w)), b, some xv] H6 := by
          intro us2 H6 F6 M6 g6 e6 hm6 hs6 hp6
          refine g_stk (r := rF) (u := y) (o_var rfl) hs6 (by simp at hL; omega) g6 (fun H7 e7 Q7 q7 => (en_cat (xs := pst x) (ys := [st]) (e_var (r := rLst rWd) (up (r := rF) e6 hxv) rfl) (en_one (r := rWd) (x := st) (e_var (r := rWd) rfl rfl)).e (by show _ + 1 ≤ _; omega)).e H7 e7 Q7 fun v7 H8 F8 g8 hv8 => q7 v7 H8 F8 g8 (by show rLst rWd F8 v7 (pst y); rw [hpy]; exact hv8)) fun H8 F8 M8 g8 e8 hs8 hm8 => ?_
          exact ⟨F8, M8, g8, ef.trans (e6.trans e8), _, us2, _, _, _, rfl, hk2, hs8, by rw [hm8 m hmo]; exact hm6, p_up e8 hp6⟩
        have hus5 : M5 m = some (.lst us) := by rw [hm5 m hmo]; exact hus
        have hcl : ((y :: L1).reverse.flatMap callsOf) = ((x :: L1).reverse.flatMap callsOf) ++ if tCal st then [(st.w, x)] else [] := by simp [List.flatMap_append, hcy]
        refine g_if kc g5 (fun c5 H6 g6 => ?_) (fun c5 H6 g6 => ?_)
        · rw [c5, if_pos rfl] at hcl
          have hul : us.length < 100000 := by
            have h1 := p_len hp
            rw [List.length_map] at h1
            have h2 : ∀ l : List Tr, (l.flatMap callsOf).length ≤ szs l := fun l => by
              induction l with
              | nil => exact Nat.le_refl _
              | cons a l ih => rw [List.flatMap_cons, List.length_append]; have := calls_len a; simp only [szs]; omega
            have h3 : ∀ l : List Tr, szs l.reverse = szs l := fun l => by
              induction l with
              | nil => rfl
              | cons a l ih =>
                have h4 : ∀ (p q : List Tr), szs (p ++ q) = szs p + szs q := fun p q => by
                  induction p with
                  | nil => simp [szs]
                  | cons b p ih2 => simp only [List.cons_append, szs, ih2]; omega
                rw [List.reverse_cons, h4, ih]; simp only [szs]; omega
            have h5 := h2 (x :: L1).reverse
            rw [h3] at h5
            have := hk.sz
            omega
          refine g_appE (o := m) (us := us) (r := rTup rLf) (x := cd (st.w, x)) (o_var rfl) hus5 g6 hul (e_tupLf (e_lfW k0) (e_lfW (e_c1 (f := txt) (e_var hxv rfl) ⟨hx, show size x ≤ 1000 by omega⟩))) fun v7 H7 F7 g7 e7 hv7 => ?_
          refine push _ _ F7 _ g7 e7 upd_same ?_ ?_
          · obtain ⟨vs, h1, h2⟩ := hs5
            exact ⟨vs, by rw [upd_ne (Ne.symm hmo)]; exact h1, p_up e7 h2⟩
          · rw [hcl, List.map_append]
            exact p_app (p_up e7 hp) (.cons hv7 .nil)
        · rw [c5] at hcl
          simp only [Bool.false_eq_true, if_false, List.append_nil] at hcl
          unfold tNext
          dsimp only
          exact push us H6 F M5 g6 (Ex.refl F) hus5 hs5 (by rw [hcl]; exact hp)
      · obtain ⟨y, hk2, hpy, hcy⟩ : ∃ y, Stk t rest (y :: L) ∧ pst y = [st] ∧ callsOf y = [] := by
          cases st with
          | num z => exact ⟨_, hk.num.2, rfl, rfl⟩
          | name z => exact ⟨_, hk.name.2, rfl, rfl⟩
          | op o => cases c1
          | _ => cases c3
        refine g_stk (r := rF) (u := y) (o_var rfl) hs (by omega) g3 (fun H7 e7 Q7 q7 => (en_one (r := rWd) (x := st) (e_var (r := rWd) rfl rfl)).e H7 e7 Q7 fun v7 H8 F8 g8 hv8 => q7 v7 H8 F8 g8 (by show rLst rWd F8 v7 (pst y); rw [hpy]; exact hv8)) fun H8 F8 M8 g8 e8 hs8 hm8 => ?_
        refine ⟨F8, M8, g8, ef.trans e8, _, us, _, _, _, rfl, hk2, hs8, by rw [hm8 m hmo]; exact hus, ?_⟩
        have : ((y :: L).reverse.flatMap callsOf) = (L.reverse.flatMap callsOf) := by simp [List.flatMap_append, hcy]
        rw [this]
        exact p_up e8 hp
    · rintro F M' σ' H' ⟨L, us, a, b, c, rfl, hk, hs, hus, hp⟩ g ef
      have := hk.done
      subst this
      have e1 : ([t].reverse.flatMap callsOf).map cd = (callsOf t).map cd := by simp
      rw [e1] at hp
      obtain ⟨F2, gF, hF⟩ := give_lstR g hus hp hm0
      exact ⟨.ref m, rfl, q (.ref m) H' F2 gF hF⟩
end
end F1

set_option Elab.async false
set_option linter.all false
set_option autoImplicit false
set_option maxRecDepth 100000
set_option maxHeartbeats 4000000
/-! # Whether a told formula is the one that was drawn -/
namespace F1
open PySem L2 Y
open Pl hiding Sp Ss PA PB RA RW RP RS
theorem size_cnt : ∀ t : Tr, size t = (pst t).length + ((pst t).filter tPow).length
  | .num s => by simp [size, pst, tPow]
  | .name s => by simp [size, pst, tPow]
  | .call s t => by have := size_cnt t; simp [size, pst, tPow, List.filter_append]; omega
  | .neg t => by have := size_cnt t; simp [size, pst, tPow, List.filter_append]; omega
  | .pow t d => by have := size_cnt t; simp [size, pst, tPow, List.filter_append, List.filter_cons]; omega
  | .op o l r => by have := size_cnt l; have := size_cnt r; simp [size, pst, tPow, List.filter_append]; omega
theorem nms_len : ∀ t : Tr, (nms t).length ≤ size t
  | .num s => by simp [size, nms]
  | .name s => by simp [size, nms]
  | .call s t => by have := nms_len t; simp [size, nms]; omega
  | .neg t => by have := nms_len t; simp [size, nms]; omega
  | .pow t d => by have := nms_len t; simp [size, nms]; omega
  | .op o l r => by have := nms_len l; have := nms_len r; simp [size, nms]; omega
section
variable {P : Program} {w : World} {K : PySem.W.Frag} {mg : Str → Option Value} {base : Heap}
def rTupOf (K : PySem.W.Frag) : List V → Hp → VK → Prop := fun xs H Q => ∃ p ys, xs = [.ref p] ∧ ((SqL K H p ys ∧ ∀ l, H l = none → Q (.ref l) (upd H l (.tup ys))) ∨ (SqT K H p ys ∧ Q (.ref p) H))
theorem call_tuple_ofK {X : Cx} (h : X.K = K) : CallR X (.type "tuple") (rTupOf K) := h ▸ call_tuple_of
section
variable {α β : Type} {r : Rp α} {s : Rp β} {σ : L2.St} {Hk : Hp} {ta tb tc te : TE} {x : α} {Ew : XK}
theorem e_tupOf [Mono r] {l : List α} (h : E (rLst r) ta σ Hk l) : E (rTup r) (tCB (rTupOf K) (tCons ta tNil)) σ Hk l := fun H e Q q => h H e _ fun v H2 F g ⟨p, vs, hv, hp, hl⟩ =>
  ⟨p, vs, by rw [hv], .inl ⟨sq_of (g.f _ _ hp), fun l' hl' => q (.ref l') _ _ (g.new hl') ⟨l', vs, rfl, upd_same, p_up (Ex.new (g.f.free hl')) hl⟩⟩⟩
theorem p_inr {F : Hp} : ∀ {vs : List V} {l : List W}, Paired (rW F) vs l → Paired (rLf F) vs (l.map .inr)
  | _, _, .nil => .nil
  | _, _, .cons h t => .cons h (p_inr t)
theorem e_lfT {l : List W} (h : E (rTup rW) ta σ Hk l) : E (rTup rLf) ta σ Hk (l.map .inr) := fun H e Q q => h H e Q fun v H2 F g ⟨p, vs, hv, hp, hl⟩ => q v H2 F g ⟨p, vs, hv, hp, p_inr hl⟩
theorem e_tupLf3 {x y z : Int ⊕ W} (h1 : E rLf ta σ Hk x) (h2 : E rLf tb σ Hk y) (h3 : E rLf tc σ Hk z) : E (rTup rLf) (tTup (tCons ta (tCons tb (tCons tc tNil)))) σ Hk [x, y, z] := fun H e Q q => two h1 h2 H e _ fun v w H2 F g hv hw =>
  (h3.mono g.k) H2 g.f _ fun u H3 F3 g3 hu => ⟨by show 3 ≤ sizeLine; decide, fun p hp => q (.ref p) _ _ ((g.trans g3).new hp) ⟨p, _, rfl, upd_same, .cons (up (g3.k.trans (Ex.new (g3.f.free hp))) hv) (.cons (up (g3.k.trans (Ex.new (g3.f.free hp))) hw) (.cons (up (Ex.new (g3.f.free hp)) hu) .nil))⟩⟩
theorem e_like0 {z : Int ⊕ W} (ha : E rLf ta σ Hk z) (hb : E rLf tb σ Hk z) : E rBl (tCall likeSp [] Ew (tCons ta (tCons tb tNil))) σ Hk true :=
  e_call (ea_cons ha (ea_cons hb ea_nil)) fun F H vs Q ex hp' q => by
    obtain ⟨v, ws, rfl, hv, v2, ws2, rfl, hv2, hn⟩ := hp'
    cases hn
    exact .inl ⟨F, ex, v, v2, z, rfl, hv, hv2, trivial, q⟩
theorem e_like1 {l : List (Int ⊕ W)} (ha : E (rTup rLf) ta σ Hk l) (hb : E (rTup rLf) tb σ Hk l) (hl : l.length ≤ 10000) : E rBl (tCall likeSp [] Ew (tCons ta (tCons tb tNil))) σ Hk true :=
  e_call (ea_cons ha (ea_cons hb ea_nil)) fun F H vs Q ex hp' q => by
    obtain ⟨v, ws, rfl, hv, v2, ws2, rfl, hv2, hn⟩ := hp'
    cases hn
    exact .inr (.inl ⟨F, ex, v, v2, l, rfl, hv, hv2, ⟨hl, fun _ _ => trivial⟩, q⟩)
theorem e_like2 {l : List (List (Int ⊕ W))} (ha : E (rLst (rTup rLf)) ta σ Hk l) (hb : E (rLst (rTup rLf)) tb σ Hk l) (hl : l.length ≤ 10000) (hl2 : ∀ x ∈ l, x.length ≤ 10000) : E rBl (tCall likeSp [] Ew (tCons ta (tCons tb tNil))) σ Hk true :=
  e_call (ea_cons ha (ea_cons hb ea_nil)) fun F H vs Q ex hp' q => by
    obtain ⟨v, ws, rfl, hv, v2, ws2, rfl, hv2, hn⟩ := hp'
    cases hn
    exact .inr (.inr ⟨F, ex, v, v2, l, rfl, hv, hv2, ⟨hl, fun x hx => ⟨hl2 x hx, fun _ _ => trivial⟩⟩, q⟩)
theorem e_reprF (T : Txt w K mg) {t : Tr} (h : E (rFm T.cF) ta σ Hk t) (hl : (txt t).length ≤ 90000) : E rW (tCB (rReprO T.cF (sp1 (rFm T.cF) rW (fun t => (txt t).length ≤ 90000) fun t => [70, 111, 114, 109, 117, 108, 97, 40] ++ txt t ++ [41]) E0) (tCons ta tNil)) σ Hk ([70, 111, 114, 109, 117, 108, 97, 40] ++ txt t ++ [41]) := fun H e Q q => h H e _ fun v H2 F g hv => by
  obtain ⟨a, dx, fs, rfl, ha, hf⟩ := hv
  exact ⟨a, dx, fs, rfl, g.f _ _ ha, F, g.f, .ref a, t, rfl, ⟨a, dx, fs, rfl, ha, hf⟩, hl, fun v' H' F' g' hv' => ⟨_, hv', q v' H' F' (g.trans g') hv'⟩⟩
theorem en_calls (T : Txt w K mg) {t : Tr} (h : E (rFm T.cF) ta σ Hk t) (hp : preT t) : EN (rCF T.cF) (tMeth T.cF "calls" (spCalls T.cF) [] Ew ta tNil) σ Hk (callsOf t) := fun H e Q q => h H e _ fun v H2 F g hv => by
  obtain ⟨a, dx, fs, rfl, ha, hf⟩ := hv
  have hfs : fs.lookup ("calls" : Str) = none := by obtain ⟨tv, nm, rfl, _⟩ := hf; rfl
  exact ⟨a, dx, fs, rfl, g.f _ _ ha, hfs, F, g.f, .ref a, t, rfl, ⟨a, dx, fs, rfl, ha, hf⟩, hp, fun p vs H' F' g' fp hp' h' hv' => q p vs H' F' (g.trans g') fp (g.h.free hp') h' hv'⟩
/-- [] != [] -/
theorem e_neNN {xs : List Int} (h : xs = []) (ha : E (rLst rInt) ta σ Hk xs) : E rBl (tOp (rNeD K) ta (tLst tNil)) σ Hk false := fun H e Q q => ha H e _ fun v H2 F g ⟨p, vs, hv, hp, hb⟩ => by
  subst h
  cases hb
  refine ⟨Nat.zero_le _, fun d hd => ⟨.list [], .list [], ?_, .lst (sq_of upd_same) .nil, rfl, rfl, q _ _ F ⟨g.h.trans (Ex.new hd), g.k, g.f.trans (Ex.new hd), g.n⟩ rfl⟩⟩
  rw [hv]
  have hpd : p ≠ d := fun z => by subst z; rw [g.f _ _ hp] at hd; cases hd
  exact .lst (sq_of (by rw [upd_ne hpd, g.f _ _ hp])) .nil
end
section
variable {σ : L2.St} {Hk : Hp} {ta te : TE}
theorem e_lenV {vs : List V} (h : E rTv te σ Hk vs) : E rInt (tCB (Y.rLen K) (tCons te tNil)) σ Hk (vs.length : Int) :=
  fun H a Q q => h H a _ fun v H2 F g ⟨b, hv, hb⟩ => ⟨b, vs, by rw [hv], .inr (st_of (g.f b _ hb)), q _ H2 F g rfl⟩
theorem ty_Tv {n : List V} : ∀ H v, rTv H v n → ∀ H', Ex H H' → TyX K H' v (.type "tuple") := fun _ v ⟨a, h, h1⟩ _ e => by cases h; exact .base (.tup (e _ _ h1))
theorem e_cf0 {p : W × Tr} {u : V} (h : E rTv ta σ Hk [.str (S p.1), u]) : E rW (tOp (rIxT K) ta (tC (.int 0))) σ Hk p.1 := E.ofV (e_ixT (k := 0) h rfl) rfl
theorem e_cf1 {C : Addr} {p : W × Tr} {u : V} (h : E rTv ta σ Hk [.str (S p.1), u]) (hu : rFm C Hk u p.2) : E (rFm C) (tOp (rIxT K) ta (tC (.int 1))) σ Hk p.2 := E.ofV (e_ixT (k := 1) h rfl) hu
end
def spRt (C : Addr) : Sp := fun vs H Q _ => ∃ Hk, Ex Hk H ∧ ∃ v u t, vs = [v, u] ∧ rFm C Hk v t ∧ rF Hk u t ∧ preT t ∧ Res rBl Hk H true Q
theorem ok__law_right (T : Txt w K mg) : FnOk P w K mg base CX0 12 T.d__law_right.a T.d__law_right.fd ["one", "formula"] (spRt T.cF) := by
  refine T.d__law_right.F.ok sc__law_right (fun vs H Q Ew h => ?_) (fun cdv A outer s H vs Q Ew hr h => ?_)
  · obtain ⟨_, _, _, _, _, rfl, _⟩ := h; rfl
  · obtain ⟨Hk, ex, v, u, t, rfl, hv, hu, hp, q⟩ := h
    refine ⟨_, (pss_cons (ps_set (i := 2) sc__law_right.nd rfl (Or.inl rfl) (pe_call (ok__law_text T) (hr.mono (by decide)) (by rfl) T.g__law_text T.d__law_text.F.kp T.d__law_text.b .nil pass0 (pa_cons (pv 1) pa_nil)))
      (pss_cons (ps_set (i := 3) sc__law_right.nd rfl (Or.inl rfl) (pe_op op_add (pe_callB (c_lenK (K := K) rfl) (by rfl) T.n_len (by decide +kernel) (pa_cons (pv 1) pa_nil)) (pe_callB (c_lenK (K := K) rfl) (by rfl) T.n_len (by decide +kernel) (pa_cons (pe_lc (own := [("word", 6)]) (g := gName 6) rfl sc__law_right.nd (pi_list (pv 1)) (blkOk_by (N := ["one", "formula", "words", "size", "turn", "told", "word", "pair"]) (sc := defScope s__law_right) (by decide +kernel)) (fun _ _ _ _ _ => (pg_name (i := 6) sc__law_right.nd rfl (Or.inl rfl) (hf := Or.inr rfl))) (fun _ _ _ _ _ => (pts_one (pt_cmpR op_eq (pe_ix ix_str (pv 6) pe_int (fun _ _ => rfl)) pe_str (nomark _)))) (fun _ _ _ _ _ => pe_int)) pa_nil))))
      (pss_cons (ps_if (PW.pt (pw_or (pt_not (pt_val (pe_callB (c_isiK (K := K) rfl) (by rfl) T.n_isinstance (by decide +kernel) (pa_cons (pv 0) (pa_cons (pe_glob (v := .ref T.cF) rfl T.g_Formula rfl) pa_nil))))) (pw_or1 (pt_not (pt_val (pe_call (ok__law_like T) (hr.mono (by decide)) (by rfl) T.g__law_like T.d__law_like.F.kp T.d__law_like.b .nil pass0 (pa_cons (pe_tup (pa_cons (pe_prop (pv 0) T.clF T.propT (ok_Formula_text T) (hr.mono (by decide)) T.d_Formula_text.b .nil pass0 rfl) (pa_cons (pe_fldK (K := K) rfl (pv 0) rfl) (pa_cons (pe_fldK (K := K) rfl (pv 0) rfl) pa_nil)))) (pa_cons (pe_tup (pa_cons (pv 2) (pa_cons (pe_call (ok__law_depth T) (hr.mono (by decide)) (by rfl) T.g__law_depth T.d__law_depth.F.kp T.d__law_depth.b .nil pass0 (pa_cons (pv 2) pa_nil)) (pa_cons (pv 3) pa_nil)))) pa_nil)))))))) (pss_one (ps_ret pe_bl)) pss_nil)
      (pss_cons (ps_if (PW.pt (pw_or (pt_not (pt_val (pe_call (ok__law_like T) (hr.mono (by decide)) (by rfl) T.g__law_like T.d__law_like.F.kp T.d__law_like.b .nil pass0 (pa_cons (pe_fldK (K := K) rfl (pv 0) rfl) (pa_cons (pe_callTy (call_tuple_ofK (K := K) rfl) (by rfl) T.n_tuple (by decide +kernel) (pa_cons (pe_call (ok__law_once T) (hr.mono (by decide)) (by rfl) T.g__law_once T.d__law_once.F.kp T.d__law_once.b .nil pass0 (pa_cons (pe_call (ok__law_names T) (hr.mono (by decide)) (by rfl) T.g__law_names T.d__law_names.F.kp T.d__law_names.b .nil pass0 (pa_cons (pv 1) pa_nil)) pa_nil)) pa_nil)) pa_nil))))) (pw_or1 (pt_not (pt_val (pe_call (ok__law_like T) (hr.mono (by decide)) (by rfl) T.g__law_like T.d__law_like.F.kp T.d__law_like.b .nil pass0 (pa_cons (pe_callB (call_reprO (ok_Formula_repr T) (hr.mono (by decide)) T.repF T.reprFn T.d_Formula_repr.b pass0) (by rfl) T.n_repr (by decide +kernel) (pa_cons (pv 0) pa_nil)) (pa_cons (pe_op op_add_str (pe_op op_add_str pe_str (pv 2)) pe_str) pa_nil)))))))) (pss_one (ps_ret pe_bl)) pss_nil)
      (pss_cons (ps_for PassesOwn.never rfl (pi_range1 (by rfl) T.n_range (pa_cons pe_int pa_nil)) (pg_name (i := 4) sc__law_right.nd rfl (Or.inl rfl) (hf := Or.inr rfl))
      (pss_cons (ps_set (i := 5) sc__law_right.nd rfl (Or.inl rfl) (pe_meth0 (pv 0) T.clF T.m_Formula_calls (ok_Formula_calls T) (hr.mono (by decide)) T.d_Formula_calls.b .nil pass0))
      (pss_cons (ps_if (PW.pt (pw_or (pt_not (pt_val (pe_callB (c_isiK (K := K) rfl) (by rfl) T.n_isinstance (by decide +kernel) (pa_cons (pv 5) (pa_cons (pe_bltn (v := .ty "list") (by rfl) T.n_list (by decide +kernel) rfl) pa_nil))))) (pw_or1 (pt_cmpR (op_neD hr.units) (pe_lc (own := [("pair", 7)]) (g := gName 7) rfl sc__law_right.nd (pi_list (pv 5)) (blkOk_by (N := ["one", "formula", "words", "size", "turn", "told", "word", "pair"]) (sc := defScope s__law_right) (by decide +kernel)) (fun _ _ _ _ _ => (pg_name (i := 7) sc__law_right.nd rfl (Or.inl rfl) (hf := Or.inr rfl))) (fun _ _ _ _ _ => (pts_one (PW.pt (pw_or (pt_not (pt_val (pe_callB (c_isiK (K := K) rfl) (by rfl) T.n_isinstance (by decide +kernel) (pa_cons (pv 7) (pa_cons (pe_bltn (v := .ty "tuple") (by rfl) T.n_tuple (by decide +kernel) rfl) pa_nil))))) (pw_or (pt_cmpR op_ne (pe_callB (c_lenK (K := K) rfl) (by rfl) T.n_len (by decide +kernel) (pa_cons (pv 7) pa_nil)) pe_int (nomark _)) (pw_or1 (pt_not (pt_val (pe_callB (c_isiK (K := K) rfl) (by rfl) T.n_isinstance (by decide +kernel) (pa_cons (pe_ix (ix_tupK (K := K) rfl) (pv 7) pe_int (fun _ _ => rfl)) (pa_cons (pe_glob (v := .ref T.cF) rfl T.g_Formula rfl) pa_nil))))))))))) (fun _ _ _ _ _ => pe_int)) (pe_lst pa_nil) (nomark _))))) (pss_one (ps_ret pe_bl)) pss_nil)
      (pss_cons (ps_if (pt_not (pt_val (pe_call (ok__law_like T) (hr.mono (by decide)) (by rfl) T.g__law_like T.d__law_like.F.kp T.d__law_like.b .nil pass0 (pa_cons (pe_lc (own := [("pair", 7)]) (g := gName 7) rfl sc__law_right.nd (pi_list (pv 5)) (blkOk_by (N := ["one", "formula", "words", "size", "turn", "told", "word", "pair"]) (sc := defScope s__law_right) (by decide +kernel)) (fun _ _ _ _ _ => (pg_name (i := 7) sc__law_right.nd rfl (Or.inl rfl) (hf := Or.inr rfl))) (fun _ _ _ _ _ => pts_nil) (fun _ _ _ _ _ => (pe_tup (pa_cons (pe_ix (ix_tupK (K := K) rfl) (pv 7) pe_int (fun _ _ => rfl)) (pa_cons (pe_prop (pe_ix (ix_tupK (K := K) rfl) (pv 7) pe_int (fun _ _ => rfl)) T.clF T.propT (ok_Formula_text T) (hr.mono (by decide)) T.d_Formula_text.b .nil pass0 rfl) pa_nil))))) (pa_cons (pe_call (ok__law_calls_due T) (hr.mono (by decide)) (by rfl) T.g__law_calls_due T.d__law_calls_due.F.kp T.d__law_calls_due.b .nil pass0 (pa_cons (pv 1) pa_nil)) pa_nil))))) (pss_one (ps_ret pe_bl)) pss_nil)
      (pss_one (ps_expr (pe_bm PySem.F.plainAttrs_list PySem.F.slot_list_append PySem.F.type_list_append mt_append (pv 5) (pa_cons (pv 4) pa_nil))))))))
      (pss_one (ps_ret pe_bl))))))), ?_⟩
    have hn := (size_nodes t).1
    unfold nodes at hn
    have hp2 := hp.2
    have htl : (txt t).length ≤ 50000 := by have := wr_len hp.1; unfold txt; omega
    refine g_set (K := Hk) (r := rW) (x := txt t) (e_c1 (e_var hu rfl) hp) (GM.start ex) fun v1 H1 F1 g1 e1 hv1 => ?_
    cases hv1
    dsimp only [List.set, L2.start]
    refine g_set (K := F1) (r := rInt) (x := (size t : Int)) ((e_i0 (f := fun i j => i + j) (e_len (Kf := K) (e_F (e_var (up (r := rF) e1 hu) rfl))) (e_len (Kf := K) (r := rInt) (xs := ((pst t).filter tPow).map fun _ => (1 : Int)) (EN.e (en_lcF (r := rInt) (s := rWd) (ys := pst t) tPow (fun _ => 1) (e_F (e_var (up (r := rF) e1 hu) rfl)) (by omega) (fun _ => rfl) fun st u F hm e hu2 => ?_)))).as ?_) g1 fun v2 H2 F2 g2 e2 hv2 => ?_
    · have hos := okdS_pst hp.1 st hm
      obtain ⟨c0, r0, hw0, hp0⟩ := w_hd hos.1
      have hwl := w_len hos
      exact ⟨t_test ((e_eqW (a := [c0]) (b := [94]) (e_atW (k := 0) (e_wd hu2 rfl) e_int (Int.le_refl _) (by rw [hw0]; rfl) (by omega)) (e_w rfl)).as (by rw [← hp0]; simp)), fun _ => e_int⟩
    · have := size_cnt t
      simp only [List.length_map]
      omega
    cases hv2
    dsimp only [List.set]
    have e2' := e1.trans e2
    have vf : ∀ {F a b c d e f g'}, Ex Hk F → E (rFm T.cF) (tVar 0) [some v, a, b, c, d, e, f, g'] F t := fun e => e_var (up (r := rFm T.cF) e hv) rfl
    have vg : ∀ {F a b c d e f g'}, Ex Hk F → E rF (tVar 1) [a, some u, b, c, d, e, f, g'] F t := fun e => e_var (up (r := rF) e hu) rfl
    have vw : ∀ {F a b c d e f g'}, E rW (tVar 2) [a, b, some (.str (S (txt t))), c, d, e, f, g'] F (txt t) := e_var rfl rfl
    have vz : ∀ {F a b c d e f g'}, E rInt (tVar 3) [a, b, c, some (.int (size t : Int)), d, e, f, g'] F (size t : Int) := e_var rfl rfl
    have tI : ∀ {F a b c d e f g'}, Ex Hk F → E rBl (tCB (rIsi K) (tCons (tVar 0) (tCons (tC (.ref T.cF)) tNil))) [some v, a, b, c, d, e, f, g'] F true := fun e => e_isi (vf e) (.own _) (ty_F T) T.kFF
    have hnl := nms_len t
    have hol : (names t).length ≤ 1000 := by have := once_len (nms t) []; unfold names; simp at this; omega
    have hcl := calls_len t
    refine g_if (b := false) ((t_or (t_not (t_b (tI (e2'.trans g2.jle)))) fun _ => t_not (t_b (e_like1 (l := [.inr (txt t), .inl (depth (txt t)), .inl (size t : Int)]) (e_tupLf3 (e_lfW (e_prop T (vf (e2'.trans g2.jle)))) (e_lfI (e_depth T (vf (e2'.trans g2.jle)))) (e_lfI (e_size T (vf (e2'.trans g2.jle))))) (e_tupLf3 (e_lfW vw) (e_lfI (e_c1 (f := depth) vw trivial)) (e_lfI vz)) (by simp)))).as rfl) g2 (fun z => nomatch z) fun _ H3 g3 => ?_
    dsimp only [tNext]
    refine g_if (b := false) ((t_or (t_not (t_b (e_like1 (l := (names t).map .inr) (e_lfT (e_names T (vf (e2'.trans g3.jle)))) (e_lfT (e_tupOf (e_c1 (f := onceGo []) (x := nms t) (e_c1 (f := nms) (vg (e2'.trans g3.jle)) hp) (by omega)))) (by rw [List.length_map]; omega)))) fun _ => t_not (t_b (e_like0 (e_lfW (e_reprF T (vf (e2'.trans g3.jle)) (by omega))) (e_lfW (e_catW (e_catW (e_w (by decide +kernel)) vw (by show 8 + _ ≤ _; omega)) (e_w (by decide +kernel)) (by rw [List.length_append]; show 8 + _ + 1 ≤ _; omega)))))).as rfl) g3 (fun z => nomatch z) fun _ H4 g4 => ?_
    dsimp only [tNext]
    refine g_forI (R := fun i _ v => v = .int (i : Int)) (K := F2) (it_range1 (n := 2) e_int (by decide) (by decide)) g4 (fun i F M' σ' => ∃ (a b c d : Option V), σ' = [some v, some u, some (.str (S (txt t))), some (.int (size t : Int)), a, b, c, d] ∧ Ex Hk F)
      (fun F e => ⟨none, none, none, none, rfl, e2'.trans e⟩) ?_ (fun i F F' M' σ' e ⟨a, b, c, d, i1, i2⟩ => ⟨a, b, c, d, i1, i2.trans e⟩) ?_
    · rintro F0 e0 i vi F M' σ' H' hi ⟨a, b, c, d, rfl, e5⟩ g5 ef _ rfl
      dsimp only [gName, List.set]
      refine g_setN (en_calls T (vf e5) hp) g5 fun p vs H6 F6 g6 e6 hp6 hpr => ?_
      dsimp only [List.set]
      have e6' := e5.trans e6
      have vt : ∀ {c d}, E (rLst (rCF T.cF)) (tVar 5) [some v, some u, some (.str (S (txt t))), some (.int (size t : Int)), some (.int (i : Int)), some (.ref p), c, d] (jn F6 (upd M' p (.lst vs))) (callsOf t) := fun H e Q q => ⟨.ref p, rfl, q (.ref p) H _ (Grow.refl e) ⟨p, vs, rfl, g6.jr upd_same, p_up g6.jle hpr⟩⟩
      refine g_if (b := false) ((t_or (t_not (t_b (e_isi (vt) (.ty _) ty_L kLL))) fun _ => t_test (e_neNN (xs := ((callsOf t).filter fun _ => false).map fun _ => (1 : Int)) (by simp) (EN.e (en_lcF (r := rInt) (s := rCF T.cF) (ys := callsOf t) (fun _ => false) (fun _ => 1) vt (by omega) (fun _ => rfl) fun pr pv F7 hm e7 ⟨u7, h7, h8⟩ => ?_)))).as rfl) g6 (fun z => nomatch z) fun _ H8 g8 => ?_
      · have v7 : E rTv (tVar 7) [some v, some u, some (.str (S (txt t))), some (.int (size t : Int)), some (.int (i : Int)), some (.ref p), c, some pv] F7 [.str (S pr.1), u7] := e_var h7 rfl
        refine ⟨(t_or (t_not (t_b (e_isi v7 (.ty _) ty_Tv kTT))) fun _ => t_or (t_test (e_neI (e_lenV v7) e_int)) fun _ => t_not (t_b (e_isi (e_cf1 (C := T.cF) v7 h8) (.own _) (ty_F T) T.kFF))).as rfl, fun z => nomatch z⟩
      dsimp only [tNext]
      refine g_if (b := false) ((t_not (t_b (e_like2 (l := (callsOf t).map cd) (EN.e (en_lcL (r := rTup rLf) (s := rCF T.cF) (f := cd) (j := 7) vt (by omega) (fun _ => rfl) fun pr pv F7 e7 hm h => ?_)) (e_c1 (f := fun t => (callsOf t).map cd) (vg (e6'.trans g8.jle)) hp) (by rw [List.length_map]; omega) (fun x hx => ?_)))).as rfl) g8 (fun z => nomatch z) fun _ H9 g9 => ?_
      · obtain ⟨u7, h7, h8⟩ := h
        have v7 : E rTv (tVar 7) [some v, some u, some (.str (S (txt t))), some (.int (size t : Int)), some (.int (i : Int)), some (.ref p), c, some pv] F7 [.str (S pr.1), u7] := e_var h7 rfl
        exact e_tupLf (e_lfW (e_cf0 v7)) (e_lfW (e_prop T (e_cf1 v7 h8)))
      · obtain ⟨pr, _, rfl⟩ := List.mem_map.mp hx
        exact (by decide : 2 ≤ 10000)
      dsimp only [tNext]
      refine g_appE (r := rInt) (x := (i : Int)) (us := vs) (o_var rfl) upd_same g9 (by have := p_len hpr; omega) (e_var rfl rfl) fun v10 H10 F10 g10 e10 hv10 => ?_
      exact ⟨F10, _, g10, ef.trans (e6.trans e10), _, _, _, _, rfl, e6'.trans e10⟩
    · rintro F M' σ' H' ⟨a, b, c, d, rfl, e5⟩ g5 ef
      exact q (.bl true) H' F g5.done rfl
end
end F1

set_option Elab.async false
set_option linter.all false
set_option autoImplicit false
set_option maxRecDepth 100000
set_option maxHeartbeats 4000000
/-! # What Formula makes of a value, or BadFormula -/
namespace F1
open PySem L2 Y
open Pl hiding Sp Ss PA PB RA RW RP RS
section
variable {P : Program} {w : World} {K : PySem.W.Frag} {mg : Str → Option Value} {base : Heap}
theorem takes0N {X : Cx} : L2N.Takes X (fun _ _ _ _ => False) := fun _ _ x => by
  obtain ⟨_, _, _, _, _, _, _, _, _, _, _, _, _, _, _, _, z⟩ := x
  exact z.elim
theorem okH__law_like (T : Txt w K mg) : L2H.FnH P w K mg base CX0 2 T.d__law_like.a T.d__law_like.fd ["told", "due"] (spLk rW anyP) := by
  refine T.d__law_like.F.okH sc__law_like (fun vs H Q Ew h => ?_) (fun cdv A outer s H vs Q Ew p hr h => ?_)
  · obtain ⟨_, _, _, _, _, rfl, _⟩ := h; rfl
  · obtain ⟨Hk, ex, v, u, z, rfl, hv, hu, _, q⟩ := h
    refine ⟨_, (pss_cons (ps_if (pt_val (pe_callB (c_isiK (K := K) rfl) (by rfl) T.n_isinstance (by decide +kernel) (pa_cons (pv 1) (pa_cons (pe_bltn (v := .ty "bool") (by rfl) T.n_bool (by decide +kernel) rfl) pa_nil)))) pss_never pss_nil)
      (pss_cons (ps_if (pt_val (pe_callB (c_isiK (K := K) rfl) (by rfl) T.n_isinstance (by decide +kernel) (pa_cons (pv 1) (pa_cons (pe_bltn (v := .ty "int") (by rfl) T.n_int (by decide +kernel) rfl) pa_nil)))) pss_never pss_nil)
      (pss_cons (ps_if (pt_val (pe_callB (c_isiK (K := K) rfl) (by rfl) T.n_isinstance (by decide +kernel) (pa_cons (pv 1) (pa_cons (pe_bltn (v := .ty "str") (by rfl) T.n_str (by decide +kernel) rfl) pa_nil)))) (pss_one (ps_ret (pe_and (pe_callB (c_isiK (K := K) rfl) (by rfl) T.n_isinstance (by decide +kernel) (pa_cons (pv 0) (pa_cons (pe_bltn (v := .ty "str") (by rfl) T.n_str (by decide +kernel) rfl) pa_nil))) (pe_one (pe_cmpR op_eq (pv 0) (pv 1) (nomark _)))))) pss_nil)
      pss_never))), ?_⟩
    have v0 : E rW (tVar 0) (L2.start ["told", "due", "k"] [v, u]) Hk z := e_var hv rfl
    have v1 : E rW (tVar 1) (L2.start ["told", "due", "k"] [v, u]) Hk z := e_var hu rfl
    refine s_if (K := Hk) (b := false) (t_b (e_isi v1 (.ty _) ty_W kSB)) ex (fun c => nomatch c) (fun _ H1 e1 => ?_)
    refine s_if (K := Hk) (b := false) (t_b (e_isi v1 (.ty _) ty_W kSI)) (ex.trans e1) (fun c => nomatch c) (fun _ H2 e2 => ?_)
    refine s_if (K := Hk) (b := true) (t_b (e_isi v1 (.ty _) ty_W kSS)) ((ex.trans e1).trans e2) (fun _ H3 e3 => ?_) (fun c => nomatch c)
    exact s_ret ((e_andV (e_isi v0 (.ty _) ty_W kSS) fun _ => e_eqW v0 v1).as (by simp)) (((ex.trans e1).trans e2).trans e3) (Res.at ex ((e1.trans e2).trans e3) q)
theorem e_callS {α : Type} {r : Rp α} {x : α} {σ : L2.St} {Hk : Hp} {Pp : PP} {sp : Sp} {Ef : L2.St → XK} {tr : TA} (h : EA Pp tr σ Hk) (hs : ∀ F H vs Q, Ex F H → Pp F vs → Res r F H x Q → sp vs H Q (Ef σ)) : E r (tCallS sp Ef tr) σ Hk x :=
  fun H a Q q => h H a _ fun vs H2 F g hp => hs F H2 vs Q g.f hp fun v H' F' g' hv => q v H' F' (g.trans g') hv
theorem e_likeS {σ : L2.St} {Hk : Hp} {ta tb : TE} {z : W} {Ef : L2.St → XK} (ha : E rW ta σ Hk z) (hb : E rW tb σ Hk z) : E rBl (tCallS (spLk rW anyP) Ef (tCons ta (tCons tb tNil))) σ Hk true :=
  e_callS (ea_cons ha (ea_cons hb ea_nil)) fun F H vs Q ex hp' q => by
    obtain ⟨v, ws, rfl, hv, v2, ws2, rfl, hv2, hn⟩ := hp'
    cases hn
    exact ⟨F, ex, v, v2, z, rfl, hv, hv2, trivial, q⟩
theorem e_xf {α : Type} {r : Rp α} {σ : L2.St} {F : Hp} {a C dd : Addr} {f : Str} {fs : List (Str × V)} {v : V} {x : α} {i : Nat} (hi : σ[i]? = some (some (.ref a))) (hd : F dd = some (.xd fs)) (hl : fs.lookup f = some v) (hr : r F v x) : E r (tXf a (.ref C) (some dd) C f (tVar i)) σ F x :=
  fun H e Q q => ⟨.ref a, hi, rfl, rfl, dd, fs, v, rfl, e _ _ hd, hl, q v H F (Grow.refl e) hr⟩
def whyW : W := noF.cps.toList
theorem whyW_S : S whyW = noF := by show Str.mk _ = _; simp [whyW, noF]
def badW : W := [66, 97, 100, 70, 111, 114, 109, 117, 108, 97]
theorem badW_S : S badW = "BadFormula" := by decide +kernel
def spRead (K : PySem.W.Frag) (C : Addr) : Sp := fun vs H Q _ => ∃ Hk, Ex Hk H ∧ ∃ v o, vs = [v] ∧ rFV K Hk v o ∧ (∀ t, readO o = some t → bnd t) ∧ Res (rOpt (rFm C)) Hk H (readO o) Q
theorem ok__law_read (T : Txt w K mg) : FnOk P w K mg base CX0 9 T.d__law_read.a T.d__law_read.fd ["words"] (spRead K T.cF) := by
  refine T.d__law_read.F.ok sc__law_read (fun vs H Q Ew h => ?_) (fun cdv A outer s H vs Q Ew hr h => ?_)
  · obtain ⟨_, _, v, o, rfl, _⟩ := h; rfl
  · obtain ⟨Hk, ex, v, o, rfl, hv, hb, q⟩ := h
    refine ⟨_, (pss_one (L2N.ps_try_as (i := 1) (Wout := fun _ _ _ _ => False) rfl rfl sc__law_read.nd rfl rfl ⟨rfl, by decide, Or.inl T.g_BadFormula⟩ takes0N (fun W pn xe tk po => (pss_one (ps_ret (pe_makeS (dvs := [V.non]) T.mk_Formula (ok_Formula_init T) (hr.mono (by decide)) rfl T.g_Formula T.d_Formula_init.b (.cons rfl .nil) (fun σ => L2N.passAt tk σ) (pa_cons (pv 0) pa_nil)))))
      (fun a oe cls d pn hz hf => (pss_one (ps_ret (pe_ifExp (PW.pt (pw_and (pt_val (pe_callB (c_isiK (K := K) rfl) (by rfl) T.n_isinstance (by decide +kernel) (pa_cons (pe_xf T.xfB T.bWhy hz.zc hf (pv 1)) (pa_cons (pe_bltn (v := .ty "str") (by rfl) T.n_str (by decide +kernel) rfl) pa_nil)))) (pw_and (pt_cmpR op_ne (pe_xf T.xfB T.bWhy hz.zc hf (pv 1)) pe_str (nomark _)) (pw_and1 (pt_val (L2H.pe_callH (E := fun _ => E0) (okH__law_like T) (show L2H.RoomH 2 _ from ⟨(hr.mono (by decide) : Room 2 _).dp, (hr.mono (by decide) : Room 2 _).un⟩) (hf.elim fun vs hv => ⟨(a, oe), ⟨rfl, vs, hv, hz.2.2 vs hv⟩, List.mem_cons_self⟩) (by rfl) T.g__law_like T.d__law_like.F.kp T.d__law_like.b (fun _ _ _ _ _ _ _ h => h.elim) (pa_cons (pe_xf T.xfB T.bCode hz.zc hf (pv 1)) (pa_cons pe_str pa_nil)))))))) pe_non pe_int)))))), ?_⟩
    refine ⟨_, rfl, fun a dx ha hdx hne => ?_⟩
    have g0 := GM.start ex
    have g1 := g0.newk (u := .own a) hdx
    have ha2 : upd H dx (.own a) a = none := by rw [upd_ne (Ne.symm hne)]; exact ha
    have g2 := g1.new (u := .ins T.cF dx []) ha2
    refine ⟨_, _, a, dx, v, .non, readO o, rfl, g2.g.f, g2.m, upd_same, .inr ⟨rfl, o, up (r := rFV K) (Ex.new (ex.free hdx)) hv, rfl, hb⟩, fun t' ht H3 F3 M3 fs gg hm hf => ⟨rfl, ?_⟩, fun hn d H3 F3 gg hd => ?_⟩
    · rw [ht] at q
      have g3 := (g2.trans gg).give hm (by rw [sub_em]; exact ha)
      exact q (.ref a) H3 _ g3.done ⟨a, dx, fs, rfl, upd_same, hf.up (Ex.new ((g2.trans gg).fm hm))⟩
    · rw [hn] at q
      have g4 := (g2.trans gg).done
      refine ⟨true, T.teB, fun _ b hb2 => ?_, fun h => nomatch h⟩
      have w1 : E rW (tXf b (.ref T.cB) (some d) T.cB ("why" : Str) (tVar 1)) [some v, some (.ref b)] F3 whyW := e_xf rfl hd rfl (by show V.str _ = V.str _; rw [whyW_S])
      have c1 : E rW (tXf b (.ref T.cB) (some d) T.cB ("code" : Str) (tVar 1)) [some v, some (.ref b)] F3 badW := e_xf rfl hd rfl (by show V.str _ = V.str _; rw [badW_S])
      refine s_ret (r := rOpt (rFm T.cF)) (x := none) (e_if (b := true) ((t_and (t_b (e_isi w1 (.ty _) ty_W kSS)) fun _ => t_and (t_test (e_neW (b := []) w1 (e_w rfl))) fun _ => t_b (e_likeS c1 (e_w badW_S))).as (by decide +kernel)) (fun _ => e_none) (fun h => nomatch h)) g4.f ?_
      exact fun v2 H2 F2 g5 hv2 => q v2 H2 F2 (g4.trans g5) hv2
end
end F1

set_option Elab.async false
set_option linter.all false
set_option autoImplicit false
set_option maxRecDepth 100000
set_option maxHeartbeats 4000000
/-! # Degrees, told and due -/
namespace F1
open PySem L2 Y
open Pl hiding Sp Ss PA PB RA RW RP RS
theorem valV_drop {κ : Type} [DecidableEq κ] (k j : κ) : ∀ kvs : List (κ × V), valV (dropK kvs k) j = if j = k then none else valV kvs j
  | [] => by
    show none = _
    split <;> rfl
  | (a, v) :: r => by
    have ih := valV_drop k j r
    unfold dropK at ih ⊢
    by_cases h : a = k
    · have : decide ((a, v).1 ≠ k) = false := by simp [h]
      rw [List.filter_cons, this]
      simp only [Bool.false_eq_true, if_false]
      rw [ih]
      by_cases hj : j = k
      · rw [if_pos hj, if_pos hj]
      · rw [if_neg hj, if_neg hj, valV_neg (by show ¬ a = j; rw [h]; exact fun z => hj z.symm)]
    · have : decide ((a, v).1 ≠ k) = true := by simp [h]
      rw [List.filter_cons, this]
      simp only [if_true]
      by_cases hj : a = j
      · rw [valV_pos hj, valV_pos hj, if_neg (by rw [← hj]; exact h)]
      · rw [valV_neg hj, valV_neg hj, ih]
/-- a table of degrees -/
structure Dg (kvs : List (L2.Key × V)) (g : W → Option Int) : Prop where
  v : ∀ s, valV kvs (.inr (S s)) = (g s).map V.int
  s : ∀ s i, g s = some i → i.natAbs ≤ 7
  f : ∀ s, figs s = true → g s = none
theorem Dg.put {kvs : List (L2.Key × V)} {g : W → Option Int} (h : Dg kvs g) {n : W} {i : Int} (hn : figs n = false) (hi : i.natAbs ≤ 7) : Dg (putK kvs (.inr (S n)) (V.int i)) (fun s => if s = n then some i else g s) := by
  refine ⟨fun s => ?_, fun s j e => ?_, fun s e => ?_⟩
  · rw [valV_put]
    by_cases c : s = n
    · subst c; simp
    · rw [if_neg (by intro z; injection z with z; exact c (S_inj.mp z))]
      rw [h.v, if_neg c]
  · by_cases c : s = n
    · rw [if_pos c] at e; cases e; exact hi
    · rw [if_neg c] at e; exact h.s s j e
  · by_cases c : s = n
    · subst c; rw [hn] at e; cases e
    · rw [if_neg c]; exact h.f s e
theorem Dg.drop {kvs : List (L2.Key × V)} {g : W → Option Int} (h : Dg kvs g) (n : W) : Dg (dropK kvs (.inr (S n))) (fun s => if s = n then none else g s) := by
  refine ⟨fun s => ?_, fun s j e => ?_, fun s e => ?_⟩
  · rw [valV_drop]
    by_cases c : s = n
    · subst c; simp
    · rw [if_neg (by intro z; injection z with z; exact c (S_inj.mp z))]
      rw [h.v, if_neg c]
  · by_cases c : s = n
    · rw [if_pos c] at e; cases e
    · rw [if_neg c] at e; exact h.s s j e
  · by_cases c : s = n
    · rw [if_pos c]
    · rw [if_neg c]; exact h.f s e
theorem Dg.nil : Dg [] fun _ => none := ⟨fun _ => rfl, fun _ _ z => (nomatch z), fun _ _ => rfl⟩
theorem figs_name {s : W} (h : isName s = true) : figs s = false := by
  cases e : figs s with
  | false => rfl
  | true =>
    exfalso
    have h2 := figs_dig e
    cases s with
    | nil => exact h2.1 rfl
    | cons c r =>
      have h3 := h2.2 c List.mem_cons_self
      have h4 : let_ c = true := by
        unfold isName at h
        simp only [Bool.and_eq_true] at h
        first | exact h.1.1 | exact h.1.1.1 | exact h.1.1.2 | exact h.1.2
      unfold dig at h3; unfold let_ at h4
      simp at h3 h4; omega
theorem nms_ok : ∀ {t : Tr}, ok t → ∀ x ∈ nms t, isName x = true
  | .num s, _, x, hx => nomatch hx
  | .name s, h, x, hx => by cases List.mem_singleton.mp hx; exact h
  | .call s t, h, x, hx => nms_ok (t := t) h.2 x hx
  | .neg t, h, x, hx => nms_ok (t := t) h x hx
  | .pow t d, h, x, hx => nms_ok (t := t) h.1 x hx
  | .op o l r, h, x, hx => by
    rcases List.mem_append.mp hx with z | z
    · exact nms_ok (t := l) h.1 x z
    · exact nms_ok (t := r) h.2 x z
theorem names_asc {t : Tr} (h : ok t) : ∀ x ∈ names t, asc x := fun x hx c hc => by
  have h2 := (name_nsg (nms_ok h x (mem_names.mp hx))).2 c hc
  unfold nsg let_ dig at h2
  simp at h2
  omega
section
variable {P : Program} {w : World} {K : PySem.W.Frag} {mg : Str → Option Value} {base : Heap}
section
variable {σ : L2.St} {Hk : Hp} {ta tb te : TE} {t : Tr} {g : W → Option Int} {Ew : XK}
theorem e_deg {cF cS : Addr} (ha : E (rFm cF) ta σ Hk t) (hb : E rDg tb σ Hk g) (hp : preT t) (h1 : ∀ s i, g s = some i → i.natAbs ≤ 7) (h2 : ∀ s, figs s = true → g s = none) (hm : missF g (names t) = none) : E rInt (tCall (spDg cF cS) [] Ew (tCons ta (tCons tb tNil))) σ Hk (deg (dgf g) t) :=
  e_call (ea_cons ha (ea_cons hb ea_nil)) fun F H vs Q ex hp' q => by
    obtain ⟨v, ws, rfl, hv, v2, ws2, rfl, hv2, hn⟩ := hp'
    cases hn
    exact ⟨F, ex, v, t, v2, g, rfl, hv, hv2, hp, h1, h2, fun _ => q, fun n z => by rw [hm] at z; cases z⟩
def rDictD : List V → Hp → VK → Prop := fun xs H Q => ∃ (a : Addr) (kvs : List (L2.Key × V)), xs = [.ref a] ∧ Rd H a (.dK kvs) ∧ ∀ p, H p = none → Q (.ref p) (upd H p (.dK kvs))
theorem e_dictD (h : E rDg te σ Hk g) : E rDg (tCB rDictD (tCons te tNil)) σ Hk g := fun H e Q q => h H e _ fun v H2 F gr ⟨d, kvs, hv, hd, hg⟩ =>
  ⟨d, kvs, by rw [hv], .inl (gr.f _ _ hd), fun p hp => q (.ref p) _ _ (gr.new hp) ⟨p, kvs, rfl, upd_same, hg⟩⟩
theorem e_d0 {x : Int} (h : E rD0 te σ Hk x) : E rInt (tOp (rIxT K) te (tC (.int 0))) σ Hk x := fun H e Q q => h H e _ fun v H2 F gr ⟨hh, p, hv, hp⟩ =>
  ⟨p, _, 0, .int x, hv, rfl, st_of (gr.f _ _ hp), rfl, q (.int x) H2 F gr rfl⟩
end
theorem miss_all : ∀ {l : List W} (h : 0 < l.length), missF (fun _ => none) l = some l[0]
  | _ :: _, _ => rfl
def zzzW : W := [122, 122, 122]
theorem deg_try (T : Txt w K mg) {D : Ends} {K0 H0 M0 F H M : Hp} {o p : Addr} {ov fv nv : V} {x5 x7 : Option V} {t : Tr} {l : Nat} {n : W} {kvs : List (L2.Key × V)} {gf : W → Option Int} (g : GM K0 H0 M0 F H M) (hov : rFm T.cF F ov t) (hnv : rLst rW F nv (names t))
    (hm : M p = some (.dK kvs)) (hg : Dg kvs gf) (hp : preT t) (hl : (names t)[l]? = some n) (hmiss : missF gf (names t) = some n) (q : ∀ H', GM K0 H0 M0 F H' M → D.rt (.bl true) H') :
    tDrop (tCallKS (spDg T.cF T.cS) (gk 1) (WE (wAs K (.ref T.cS) 7 (fun a cls d => tRet (tCallS (spLk rW anyP) (fun _ => E0) (tCons (tXf a cls d T.cS "name" (tVar 7)) (tCons (tOp (rIxL K) (tVar 3) (tVar 6)) tNil)))) (fun _ _ _ _ => False) D)) (tCons (tVar 1) tNil) (tCons (tVar 4) tNil)) D [some (.ref o), some ov, some fv, some nv, some (.ref p), x5, some (.int (l : Int)), x7] H := by
  refine ⟨_, rfl, _, rfl, jn F M, g.jn, ov, t, .ref p, gf, rfl, up (r := rFm T.cF) g.jle hov, ⟨p, kvs, rfl, g.jr hm, hg.v⟩, hp, hg.s, hg.f, (fun z => by rw [hmiss] at z; cases z), fun n' hn' d H' F' gr hd => ?_⟩
  have : n' = n := by rw [hmiss] at hn'; exact (Option.some.inj hn').symm
  subst this
  refine ⟨true, T.teS, fun _ b hb => ?_, fun h => nomatch h⟩
  refine s_ret (K := F') (r := rBl) (x := true) (e_likeS (z := n') (e_xf rfl hd rfl rfl) (e_at (Kf := K) (e_var (up (r := rLst rW) (g.jle.trans gr.k) hnv) rfl) (e_var (x := (l : Int)) rfl rfl) (by omega) (by simpa using hl))) gr.f ?_
  intro v2 H2 F2 g2 hv2
  cases hv2
  exact q H2 (g.ex (gr.h.trans g2.h))
theorem ok__law_degrees_right (T : Txt w K mg) : FnOk P w K mg base CX0 12 T.d__law_degrees_right.a T.d__law_degrees_right.fd ["jar", "one", "formula"] (spJ2 (rFm T.cF) rF (fun t u => t = u ∧ preT t) rBl fun _ _ b => b = true) := by
  refine T.d__law_degrees_right.F.ok sc__law_degrees_right (fun vs H Q Ew h => ?_) (fun cdv A outer s H vs Q Ew hr h => ?_)
  · obtain ⟨_, _, _, _, _, _, _, rfl, _⟩ := h; rfl
  · obtain ⟨Hk, M, o, ov, t, fv, t', rfl, h1, h2, J, hov, hfv, ⟨rfl, hp⟩, q⟩ := h
    refine ⟨_, (pss_cons (ps_set (i := 3) sc__law_degrees_right.nd rfl (Or.inl rfl) (pe_call (ok__law_once T) (hr.mono (by decide)) (by rfl) T.g__law_once T.d__law_once.F.kp T.d__law_once.b .nil pass0 (pa_cons (pe_call (ok__law_names T) (hr.mono (by decide)) (by rfl) T.g__law_names T.d__law_names.F.kp T.d__law_names.b .nil pass0 (pa_cons (pv 2) pa_nil)) pa_nil)))
      (pss_cons (ps_set (i := 4) sc__law_degrees_right.nd rfl (Or.inl rfl) (pe_disp (pps_cons pe_str pe_int pps_nil) (by rfl) (by rfl) (fun z => by cases z) (by decide)))
      (pss_cons (ps_for PassesOwn.never rfl (pi_list (pv 3)) (pg_name (i := 5) sc__law_degrees_right.nd rfl (Or.inl rfl) (hf := Or.inr rfl))
      (pss_one (ps_dput (hu_of hr) (pv 4) (pv 5) (pe_call (ok__law_pick T) (hr.mono (by decide)) (by rfl) T.g__law_pick T.d__law_pick.F.kp T.d__law_pick.b .nil pass0 (pa_cons (pv 0) (pa_cons (pe_lst (pa_cons pe_int (pa_cons pe_int (pa_cons pe_int (pa_cons pe_int (pa_cons pe_int pa_nil)))))) pa_nil))) rfl)))
      (pss_cons (ps_if (pt_not (pt_val (pe_call (ok__law_like T) (hr.mono (by decide)) (by rfl) T.g__law_like T.d__law_like.F.kp T.d__law_like.b .nil pass0 (pa_cons (pe_call (ok_degree_of T) (hr.mono (by decide)) (by rfl) T.g_degree_of T.d_degree_of.F.kp T.d_degree_of.b .nil passLN (pa_cons (pv 1) (pa_cons (pe_callTy (r := rDictD) call_dictD (by rfl) T.n_dict (by decide +kernel) (pa_cons (pv 4) pa_nil)) pa_nil))) (pa_cons (pe_ix (ix_tupK (K := K) rfl) (pe_call (ok__law_degrees T) (hr.mono (by decide)) (by rfl) T.g__law_degrees T.d__law_degrees.F.kp T.d__law_degrees.b .nil pass0 (pa_cons (pv 2) (pa_cons (pv 4) pa_nil))) pe_int (fun _ _ => rfl)) pa_nil))))) (pss_one (ps_ret pe_bl)) pss_nil)
      (pss_cons (ps_if (pt_cmpR (op_eqD hr.units) (pv 3) (pe_lst pa_nil) (nomark _)) (pss_one (ps_ret pe_bl)) pss_nil)
      (pss_cons (ps_set (i := 6) sc__law_degrees_right.nd rfl (Or.inl rfl) (pe_call (ok__law_draw T) (hr.mono (by decide)) (by rfl) T.g__law_draw T.d__law_draw.F.kp T.d__law_draw.b .nil pass0 (pa_cons (pv 0) (pa_cons (pe_callB (c_lenK (K := K) rfl) (by rfl) T.n_len (by decide +kernel) (pa_cons (pv 3) pa_nil)) pa_nil))))
      (pss_cons (ps_expr (pe_dpop1 (pv 4) (pe_ix (ix_listK (K := K) rfl) (pv 3) (pv 6) (fun _ _ => rfl)) ⟨rfl, rfl, rfl, rfl⟩))
      (pss_cons (ps_if (pt_cmpR op_eq (pe_call (ok__law_draw T) (hr.mono (by decide)) (by rfl) T.g__law_draw T.d__law_draw.F.kp T.d__law_draw.b .nil pass0 (pa_cons (pv 0) (pa_cons pe_int pa_nil))) pe_int (nomark _)) (pss_cons (ps_set (i := 6) sc__law_degrees_right.nd rfl (Or.inl rfl) pe_int)
      (pss_one (ps_set (i := 4) sc__law_degrees_right.nd rfl (Or.inl rfl) pe_dnewK))) pss_nil)
      (pss_cons (L2N.ps_try_as (i := 7) (Wout := fun _ _ _ _ => False) rfl rfl sc__law_degrees_right.nd rfl rfl ⟨rfl, by decide, Or.inl T.g_NoSuch⟩ takes0N (fun W pn xe tk po => (pss_one (ps_expr (pe_callKS (ok_degree_of T) (hr.mono (by decide)) (by rfl) T.g_degree_of T.d_degree_of.F.kp T.kb_degree_of (fun σ => L2N.passAt tk σ) (pa_cons (pv 1) pa_nil) (pk_cons (pv 4) pk_nil)))))
      (fun a oe cls d pn hz hf => (pss_one (ps_ret (L2H.pe_callH (E := fun _ => E0) (okH__law_like T) (show L2H.RoomH 2 _ from ⟨(hr.mono (by decide) : Room 2 _).dp, (hr.mono (by decide) : Room 2 _).un⟩) (hf.elim fun vs hv => ⟨(a, oe), ⟨rfl, vs, hv, hz.2.2 vs hv⟩, List.mem_cons_self⟩) (by rfl) T.g__law_like T.d__law_like.F.kp T.d__law_like.b (fun _ _ _ _ _ _ _ h => h.elim) (pa_cons (pe_xf T.xfS T.sName hz.zc hf (pv 7)) (pa_cons (pe_ix (ix_listK (K := K) rfl) (pv 3) (pv 6) (fun _ _ => rfl)) pa_nil)))))))
      (pss_one (ps_ret pe_bl))))))))))), ?_⟩
    have hnl := nms_len t
    have hp2 := hp.2
    have hol : (names t).length ≤ 1000 := by have := once_len (nms t) []; unfold names; simp at this; omega
    refine g_set (K := Hk) (r := rLst rW) (x := names t) (e_c1 (f := onceGo []) (x := nms t) (e_c1 (f := nms) (e_var hfv rfl) hp) (by omega)) (GM.refl h1 h2) fun nv H1 F1 g1 e1 hnv => ?_
    dsimp only [List.set, L2.start]
    intro p hpn
    refine ⟨upd_same, [(.inr (S zzzW), .int 4)], rfl, by show 1 ≤ 15; decide, ?_⟩
    have g2 := (g1.new (u := .dK []) hpn).upd (u' := .dK [((.inr (S zzzW) : L2.Key), V.int 4)]) upd_same
    have hMp : M p = none := g1.m.free hpn
    obtain ⟨ju, hju⟩ : ∃ u, M o = some u := by obtain ⟨c, cs, i, r, l, m, n, h1, _⟩ := J; exact ⟨_, h1⟩
    have hpo : p ≠ o := fun z => by subst z; rw [hju] at hMp; cases hMp
    have dg0 : Dg [((.inr (S zzzW) : L2.Key), V.int 4)] (fun s => if s = zzzW then some 4 else none) := by
      have := Dg.nil.put (n := zzzW) (i := 4) (by decide +kernel) (by decide)
      exact this
    dsimp only [gName]
    show tFor _ _ _ _ _ _
    dsimp only [List.set, L2.start]
    refine g_for (K := F1) (r := rW) (e_var hnv rfl) g2 (fun rest F M' σ' => ∃ (done : List W) (gf : W → Option Int) (kvs : List (L2.Key × V)) (a b c : Option V), names t = done ++ rest ∧ σ' = [some (.ref o), some ov, some fv, some nv, some (.ref p), a, b, c] ∧ Ex F1 F ∧ Jar F M' o ∧ M' p = some (.dK kvs) ∧ Dg kvs gf ∧ kvs.length ≤ done.length + 1 ∧ (∀ x ∈ done, (gf x).isSome = true) ∧ (∀ a, a ≠ o → a ≠ p → M' a = M a))
      (fun F e => ⟨[], _, _, none, none, none, rfl, rfl, e, ((J.up e1).m (by rw [upd_ne (Ne.symm hpo), upd_ne (Ne.symm hpo)])).up e, upd_same, dg0, by show 1 ≤ _; omega, fun _ z => (nomatch z), fun a a1 a2 => by rw [upd_ne a2, upd_ne a2]⟩)
      (fun l F F' M' σ' e ⟨dn, gf, kvs, a, b, c, i1, i2, i3, i4, i5, i6, i7, i8, i9⟩ => ⟨dn, gf, kvs, a, b, c, i1, i2, i3.trans e, i4.up e, i5, i6, i7, i8, i9⟩) ?_ ?_
    · rintro F0 e0 x rest xv F M' σ' H' ⟨dn, gf, kvs, a, b, c, jj, rfl, i3, J2, i5, i6, i7, i8, i9⟩ g ef hx
      cases hx
      dsimp only [gName, List.set]
      have hxn : isName x = true := nms_ok hp.1.1 x (mem_names.mp (by rw [jj]; simp))
      refine (j_pick (r := rInt) (Pl := fun l => l.length = 5 ∧ ∀ d ∈ l, d.natAbs ≤ 7) rfl (j_lst (ja_all (EJ.of e_int (by decide)) (ja_all (EJ.of e_int (by decide)) (ja_all (EJ.of e_int (by decide)) (ja_all (EJ.of e_int (by decide)) (ja_all (EJ.of e_int (by decide)) ja_all0))))) (fun l h => by omega)) (fun l h => by omega)) _ _ _ _ _ _ g (Ex.refl _) J2 _ fun dv d H3 F3 M3 g3 e3 J3 hm3 hdv ⟨l, ⟨_, hl2⟩, hd⟩ => ?_
      cases hdv
      have hd7 := hl2 d hd
      have m3 : M3 p = some (.dK kvs) := by rw [hm3 p hpo]; exact i5
      refine ⟨_, rfl, _, rfl, p, _, rfl, .inl ⟨kvs, .inr (S x), g3.m _ _ m3, rfl, sz_lt (by have := congrArg List.length jj; simp at this; omega), rfl⟩, ?_⟩
      refine ⟨F3, _, g3.upd m3, ef.trans e3, dn ++ [x], _, _, _, _, _, by rw [jj]; simp, rfl, i3.trans e3, J3.m (upd_ne (Ne.symm hpo)), upd_same, i6.put (figs_name hxn) hd7, ?_, fun y hy => ?_, fun a a1 a2 => by rw [upd_ne a2, hm3 a a1]; exact i9 a a1 a2⟩
      · have : ∀ (l : List (L2.Key × V)) k v, (putK l k v).length ≤ l.length + 1 := fun l k v => by unfold putK; split <;> simp
        have := this kvs (.inr (S x)) (.int d)
        simp; omega
      · by_cases c : y = x
        · rw [if_pos c]; rfl
        · rw [if_neg c]
          rcases List.mem_append.mp hy with z | z
          · exact i8 y z
          · exact absurd (List.mem_singleton.mp z) c
    · rintro F M' σ' H' ⟨dn, gf, kvs, a, b, c, jj, rfl, i3, J2, i5, i6, i7, i8, i9⟩ g ef
      rw [List.append_nil] at jj
      rw [← jj] at i7 i8
      have ef' := e1.trans i3
      have vf : ∀ {F3 a b c d e f g'}, Ex F F3 → E (rFm T.cF) (tVar 1) [a, some ov, b, c, d, e, f, g'] F3 t := fun e => e_var (up (r := rFm T.cF) (ef'.trans e) hov) rfl
      have hkn : missF gf (names t) = none := List.find?_eq_none.mpr fun x hx => by rw [i8 x hx]; simp
      have hkk : knows gf t := ⟨fun s hs => Option.isSome_iff_exists.mp (i8 s (mem_names.mpr hs)), i6.s, i6.f⟩
      have vk : ∀ {F3 H3 M3 a b c d e f g'} {gf : W → Option Int} {kvs : List (L2.Key × V)}, GM Hk H M F3 H3 M3 → M3 p = some (.dK kvs) → Dg kvs gf → E rDg (tVar 4) [a, b, c, d, some (.ref p), e, f, g'] (jn F3 M3) gf := fun g3 m3 d3 H e Q q => ⟨.ref p, rfl, q (.ref p) H _ (Grow.refl e) ⟨p, _, rfl, g3.jr m3, d3.v⟩⟩
      have vg : ∀ {F3 a b c d e f g'}, Ex F F3 → E rF (tVar 2) [a, b, some fv, c, d, e, f, g'] F3 t := fun e => e_var (up (r := rF) (ef'.trans e) hfv) rfl
      have vn : ∀ {F3 a b c d e f g'}, Ex F F3 → E (rLst rW) (tVar 3) [a, b, c, some nv, d, e, f, g'] F3 (names t) := fun e => e_var (up (r := rLst rW) (i3.trans e) hnv) rfl
      dsimp only [tSeq]
      refine g_if (b := false) ((t_not (t_b (e_like0 (e_lfI (e_deg (vf g.jle) (e_dictD (vk g i5 i6)) hp i6.s i6.f hkn)) (e_lfI (e_d0 (e_c2 (s := rD0) (pre := fun t g => preT t ∧ knows g t) (f := fun t g => deg (dgf g) t) (x := t) (y := gf) (vg g.jle) (vk g i5 i6) ⟨hp, hkk⟩)))))).as rfl) g (fun z => nomatch z) fun _ H3 g3 => ?_
      dsimp only [tNext]
      have h0p : sub H M p = none := g1.g.h.free (by rw [sub_none hMp]; exact hpn)
      have jar_give : ∀ {F3 H3 M3 kvs}, GM Hk H M F3 H3 M3 → M3 p = some (.dK kvs) → Jar F3 M3 o → (∀ a, a ≠ o → a ≠ p → M3 a = M a) → Q (.bl true) H3 := fun {F3 H3 M3 kvs} g3 m3 J3 h3 => by
        have g4 := g3.give m3 h0p
        have e4 : Ex F3 (upd F3 p (.dK kvs)) := Ex.new (g3.fm m3)
        refine q (.bl true) true H3 _ _ g4 ((J3.up e4).m (Y.del_ne (Ne.symm hpo))) (fun a a1 => ?_) rfl rfl
        by_cases a2 : a = p
        · subst a2; rw [Y.del_same, hMp]
        · rw [Y.del_ne a2]; exact h3 a a1 a2
      refine g_if (b := decide (names t = [])) (t_test (e_eqNil (names_asc hp.1.1) (vn g3.jle))) g3 (fun c H4 g4 => ?_) (fun c H4 g4 => ?_)
      · exact jar_give g4 i5 J2 i9
      have c := of_decide_eq_false c
      dsimp only [tNext]
      have hlen : 0 < (names t).length := List.length_pos_iff.mpr c
      refine j_d (Hk := F) (n := ((names t).length : Int)) rfl (e_len (Kf := K) (vn (Ex.refl F))) (by omega) (by omega) _ _ _ _ _ _ g4 (Ex.refl _) J2 _ fun v5 d H5 F5 M5 g5 e5 J5 hm5 hv5 ⟨d0, d1⟩ => ?_
      cases hv5
      obtain ⟨l, rfl⟩ : ∃ l : Nat, d = (l : Int) := ⟨d.toNat, by omega⟩
      dsimp only [List.set]
      have hl : l < (names t).length := by omega
      have hm5' : M5 p = some (.dK kvs) := by rw [hm5 p hpo]; exact i5
      have h95 : ∀ a, a ≠ o → a ≠ p → M5 a = M a := fun a a1 a2 => (hm5 a a1).trans (i9 a a1 a2)
      obtain ⟨v0, hv0⟩ : ∃ v0, valV kvs (.inr (S (names t)[l])) = some v0 := by
        rw [i6.v]
        obtain ⟨i, hi⟩ := Option.isSome_iff_exists.mp (i8 (names t)[l] (List.getElem_mem hl))
        exact ⟨_, by rw [hi]; rfl⟩
      refine ⟨_, rfl, p, rfl, .inl ⟨_, .inl (g5.m _ _ hm5')⟩, ?_⟩
      refine g_e (K := F5) (r := rW) (x := (names t)[l]) (te := tOp (rIxL K) (tVar 3) (tVar 6)) (e_at (Kf := K) (vn e5) (e_var (x := (l : Int)) rfl rfl) (by omega) (by simp)) g5 fun v6 H6 F6 g6 e6 hv6 => ?_
      cases hv6
      refine ⟨kvs, .inr (S (names t)[l]), v0, g6.m _ _ hm5', rfl, hv0, ?_⟩
      have g7 := g6.upd (u' := .dK (dropK kvs (.inr (S (names t)[l])))) hm5'
      have J7 : Jar F6 (upd M5 p (.dK (dropK kvs (.inr (S (names t)[l]))))) o := (J5.up e6).m (upd_ne (Ne.symm hpo))
      refine g_ifJ (Hk := F6) (Pb := fun _ => True) (TJ.test (j_eqI (j_d (n := 2) rfl e_int (by decide) (by decide)))) g7 (Ex.refl _) J7 fun b H8 F8 M8 g8 e8 J8 hm8 _ => ?_
      have m8 : M8 p = some (.dK (dropK kvs (.inr (S (names t)[l])))) := by rw [hm8 p hpo]; exact upd_same
      have h98 : ∀ a, a ≠ o → a ≠ p → M8 a = M a := fun a a1 a2 => by rw [hm8 a a1, upd_ne a2]; exact h95 a a1 a2
      have e68 := e5.trans (e6.trans e8)
      cases b with
      | false =>
        rw [if_neg (by decide)]
        dsimp only [tNext]
        refine deg_try T g8 (up (r := rFm T.cF) (ef'.trans e68) hov) (up (r := rLst rW) (i3.trans e68) hnv) m8 (i6.drop _) hp (List.getElem?_eq_getElem hl) ?_ fun H9 g9 => jar_give g9 m8 J8 h98
        unfold missF
        cases hf : (names t).find? fun s => !(if s = (names t)[l] then none else gf s).isSome with
        | none =>
          have := List.find?_eq_none.mp hf (names t)[l] (List.getElem_mem hl)
          simp at this
        | some y =>
          have h1 := List.find?_some hf
          by_cases cy : y = (names t)[l]
          · rw [cy]
          · rw [if_neg cy] at h1
            have := i8 y (List.mem_of_find?_eq_some hf)
            rw [this] at h1; cases h1
      | true =>
        rw [if_pos rfl]
        dsimp only [gName, List.set]
        intro p2 hp2n
        have g9 := g8.new (u := .dK []) hp2n
        have hp2o : p2 ≠ o := fun z => by
          subst z
          obtain ⟨c, cs, i, r, l, m, n, h1, _⟩ := J8
          rw [g8.m _ _ h1] at hp2n; cases hp2n
        have hpp : p2 ≠ p := fun z => by subst z; rw [g8.m _ _ m8] at hp2n; cases hp2n
        have m9 : (upd M8 p2 (.dK [])) p2 = some (.dK []) := upd_same
        refine deg_try T (l := 0) g9 (up (r := rFm T.cF) (ef'.trans e68) hov) (up (r := rLst rW) (i3.trans e68) hnv) m9 Dg.nil hp (List.getElem?_eq_getElem hlen) ?_ fun H9 g10 => ?_
        · exact miss_all hlen
        · have m10 : (upd M8 p2 (.dK [])) p = some (.dK (dropK kvs (.inr (S (names t)[l])))) := by rw [upd_ne (Ne.symm hpp)]; exact m8
          have h0p2 : sub H M p2 = none := by
            have z : M p2 = none := by rw [← h98 p2 hp2o hpp]; exact g8.m.free hp2n
            exact g8.g.h.free (by rw [sub_none (g8.m.free hp2n)]; exact hp2n)
          have g11 := g10.give m9 h0p2
          have hF2 : F8 p2 = none := g10.fm m9
          refine jar_give (kvs := dropK kvs (.inr (S (names t)[l]))) g11 (by rw [Y.del_ne (Ne.symm hpp)]; exact m10) ((J8.up (Ex.new hF2)).m (by rw [Y.del_ne (Ne.symm hp2o), upd_ne (Ne.symm hp2o)])) fun a a1 a2 => ?_
          by_cases a3 : a = p2
          · subst a3
            rw [Y.del_same, ← h98 a hp2o hpp]
            exact (g8.m.free hp2n).symm
          · rw [Y.del_ne a3, upd_ne a3]; exact h98 a a1 a2
end
end F1

set_option Elab.async false
set_option linter.all false
set_option autoImplicit false
set_option maxRecDepth 100000
set_option maxHeartbeats 4000000
/-! # The jar -/
namespace F1
open PySem L2 Y
open Pl hiding Sp Ss PA PB RA RW RP RS
def rSq (K : PySem.W.Frag) : Rp (List Int) := fun H v ns => ∃ a, v = .ref a ∧ SqL K H a (ns.map V.int)
instance (K : PySem.W.Frag) : Mono (rSq K) := ⟨fun e ⟨a, h1, h2⟩ => ⟨a, h1, ex_l e h2⟩⟩
section
variable {P : Program} {w : World} {K : PySem.W.Frag} {mg : Str → Option Value} {base : Heap}
theorem pair_int {F : Hp} : ∀ ns : List Int, Paired (rInt F) (ns.map V.int) ns
  | [] => .nil
  | n :: t => .cons rfl (pair_int t)
theorem e_cutS {σ : L2.St} {Hk : Hp} {te : TE} {tl th : TO} {ns : List Int} {lo hi : Option Int} (h : E (rSq K) te σ Hk ns) (h1 : EO tl σ Hk lo) (h2 : EO th σ Hk hi) : EN rInt (tSl (rSlL K) te tl th) σ Hk (cutL ns lo hi) := fun H a Q q =>
  h H a _ fun v H2 F g ⟨b, hv, hb⟩ => h1 H2 g.kh _ fun H3 e3 => h2 H3 (g.kh.trans e3) _ fun H4 e4 =>
    ⟨b, _, hv, ex_l ((g.f.trans e3).trans e4) hb, fun p hp' => q p _ _ F ⟨((g.h.trans e3).trans e4).trans (Ex.new hp'), g.k, ((g.f.trans e3).trans e4).trans (Ex.new hp'), g.n⟩ (((g.f.trans e3).trans e4).free hp') (((g.h.trans e3).trans e4).free hp') upd_same (cut_pair (pair_int ns) lo hi)⟩
def spJar (K : PySem.W.Frag) : Sp := fun vs H Q _ => ∃ Hk, Ex Hk H ∧ ∃ v ns, vs = [v] ∧ rSq K Hk v ns ∧ ns.length ≤ 63 ∧ ∀ o H' F M', GM Hk H em F H' M' → Jar F M' o → Q (.ref o) H'
theorem ok__law_jar (T : Txt w K mg) : FnOk P w K mg base CX0 1 T.d__law_jar.a T.d__law_jar.fd ["script"] (spJar K) := by
  refine T.d__law_jar.F.ok sc__law_jar (fun vs H Q Ew h => ?_) (fun cdv A outer s H vs Q Ew hr h => ?_)
  · obtain ⟨_, _, _, _, rfl, _⟩ := h; rfl
  · obtain ⟨Hk, ex, v, ns, rfl, hv, hl, q⟩ := h
    refine ⟨_, (pss_cons (ps_set (i := 1) sc__law_jar.nd rfl (Or.inl rfl) pe_int)
      (pss_cons (ps_for PassesOwn.never rfl (pi_list (pe_slice (sl_listK (K := K) rfl) (pv 0) po_none (po_some pe_int))) (pg_name (i := 2) sc__law_jar.nd rfl (Or.inl rfl) (hf := Or.inr rfl))
      (pss_one (ps_set (i := 1) sc__law_jar.nd rfl (Or.inl rfl) (pe_op op_modN (pe_callTy c_toInt (by rfl) T.n_int (by decide +kernel) (pa_cons (pe_op op_add (pe_op op_add (pe_op op_mul (pv 1) pe_int) (pe_op op_modN (pe_callTy c_toInt (by rfl) T.n_int (by decide +kernel) (pa_cons (pv 2) pa_nil)) pe_int)) pe_int) pa_nil)) pe_int))))
      (pss_one (ps_ret (pe_lst (pa_cons (pe_callTy (c_listK (K := K) rfl) (by rfl) T.n_list (by decide +kernel) (pa_cons (pe_slice (sl_listK (K := K) rfl) (pv 0) po_none (po_some pe_int)) pa_nil)) (pa_cons pe_int (pa_cons pe_int (pa_cons pe_int (pa_cons (pv 1) (pa_cons pe_int pa_nil))))))))))), ?_⟩
    refine g_set (r := rInt) (x := 12289) e_int (GM.start ex) fun v1 H1 F1 g1 e1 hv1 => ?_
    cases hv1
    have ct : ∀ {b c F}, Ex Hk F → EN rInt (tSl (rSlL K) (tVar 0) tNoPart (tPart (tC (.int 63)))) [some v, b, c] F (ns.take 63) := fun e => (e_cutS (e_var (up (r := rSq K) e hv) rfl) eo_none (eo_some e_int)).as (cutL_to ns 63)
    dsimp only [List.set, L2.start]
    refine g_for (K := F1) (r := rInt) (EN.e (ct e1)) g1 (fun rest F M' σ' => ∃ (m : Int) (a : Option V), σ' = [some v, some (.int m), a] ∧ Ex Hk F ∧ 0 ≤ m ∧ m < 2147483647)
      (fun F e => ⟨12289, none, rfl, e1.trans e, by omega, by omega⟩) (fun l F F' M' σ' e ⟨m, a, i1, i2, i3⟩ => ⟨m, a, i1, i2.trans e, i3⟩) ?_ ?_
    · rintro F0 e0 x rest xv F M' σ' H' ⟨m, a, rfl, eF, m0, m1⟩ g ef hx
      cases hx
      dsimp only [gName, List.set]
      refine g_set (r := rInt) (K := F) (e_i (C := fun _ j => j ≠ 0) (f := fun i j => i.fmod j) (e_toInt (e_i0 (f := fun i j => i + j) (e_i0 (f := fun i j => i + j) (e_i (C := CMul) (f := fun i j => i * j) (e_var (x := m) rfl rfl) e_int (cmL ⟨m0, m1⟩)) (e_i (C := fun _ j => j ≠ 0) (f := fun i j => i.fmod j) (e_toInt (e_var (x := x) rfl rfl)) e_int (by decide))) e_int)) e_int (by decide)) g fun v5 H5 F5 g5 e5 hv5 => ?_
      cases hv5
      exact ⟨F5, M', g5, ef.trans e5, _, _, rfl, eF.trans e5, (fm _ (by decide)).1, (fm _ (by decide)).2⟩
    · rintro F M' σ' H' ⟨m, a, rfl, eF, m0, m1⟩ g ef
      have ea : EA (pCons (rLst rInt) (ns.take 63) (pCons rInt 0 (pCons rInt 0 (pCons rInt 0 (pCons rInt m (pCons rInt 0 pNil)))))) (tCons (tCB (rList K) (tCons (tSl (rSlL K) (tVar 0) tNoPart (tPart (tC (.int 63)))) tNil)) (tCons (tC (.int 0)) (tCons (tC (.int 0)) (tCons (tC (.int 0)) (tCons (tVar 1) (tCons (tC (.int 0)) tNil)))))) [some v, some (.int m), a] F :=
        ea_cons (EN.e (en_list (EN.e (ct eF)))) (ea_cons e_int (ea_cons e_int (ea_cons e_int (ea_cons (e_var rfl rfl) (ea_cons e_int ea_nil)))))
      dsimp only
      unfold tRet L2.tLst
      refine ea H' g.f _ fun vs H2 F2 g2 hp => ?_
      obtain ⟨u, w0, rfl, ⟨c, cs, hu, hc, hcs⟩, u1, w1, rfl, h1, u2, w2, rfl, h2, u3, w3, rfl, h3, u4, w4, rfl, h4, u5, w5, rfl, h5, hn⟩ := hp
      cases h1; cases h2; cases h3; cases h4; cases h5; cases hn; subst hu
      have gg := g.grow g2
      refine ⟨by show 6 ≤ sizeLine; decide, fun p hp => q p _ F2 _ (gg.new hp) ⟨c, cs, 0, 0, 0, m, 0, upd_same, hc, fun x hx => ?_, ?_, by omega, m0, m1⟩⟩
      · rw [ints_of hcs] at hx
        obtain ⟨k, _, e⟩ := List.mem_map.mp hx
        exact ⟨k, e.symm⟩
      · rw [p_len hcs, List.length_take]; omega
end
end F1

set_option Elab.async false
set_option linter.all false
set_option autoImplicit false
set_option maxRecDepth 100000
set_option maxHeartbeats 8000000
/-! # The law keeps its promise -/
namespace F1
open PySem L2 Y
open Pl hiding Sp Ss PA PB RA RW RP RS
theorem put_ok {n : W} {u : Tr} (hu : ok u) : ∀ {t : Tr}, ok t → ok (put n u t)
  | .num s, h => h
  | .name s, h => by
    show ok (if s = n then u else .name s)
    split
    · exact hu
    · exact h
  | .call s t, h => ⟨h.1, put_ok hu (t := t) h.2⟩
  | .neg t, h => put_ok hu (t := t) h
  | .pow t d, h => ⟨put_ok hu (t := t) h.1, h.2⟩
  | .op o l r, h => ⟨put_ok hu (t := l) h.1, put_ok hu (t := r) h.2⟩
theorem put_digs {n : W} {u : Tr} : ∀ t : Tr, digs (put n u t) ≤ max (digs t) (digs u)
  | .num s => Nat.le_max_left _ _
  | .name s => by
    show digs (if s = n then u else .name s) ≤ _
    split
    · exact Nat.le_max_right _ _
    · exact Nat.zero_le _
  | .call s t => put_digs t
  | .neg t => put_digs t
  | .pow t d => put_digs t
  | .op o l r => by
    have h1 := put_digs (n := n) (u := u) l
    have h2 := put_digs (n := n) (u := u) r
    show max (digs (put n u l)) (digs (put n u r)) ≤ max (max (digs l) (digs r)) (digs u)
    omega
theorem put_size {n : W} {u : Tr} : ∀ t : Tr, size (put n u t) ≤ size t * size u
  | .num s => by have := size_pos u; show 1 ≤ 1 * size u; omega
  | .name s => by
    have := size_pos u
    show size (if s = n then u else .name s) ≤ 1 * size u
    split
    · omega
    · show 1 ≤ _; omega
  | .call s t => by have := put_size (n := n) (u := u) t; have := size_pos u; show size (put n u t) + 1 ≤ (size t + 1) * size u; rw [Nat.add_mul]; omega
  | .neg t => by have := put_size (n := n) (u := u) t; have := size_pos u; show size (put n u t) + 1 ≤ (size t + 1) * size u; rw [Nat.add_mul]; omega
  | .pow t d => by have := put_size (n := n) (u := u) t; have := size_pos u; show size (put n u t) + 2 ≤ (size t + 2) * size u; rw [Nat.add_mul]; omega
  | .op o l r => by have := put_size (n := n) (u := u) l; have := put_size (n := n) (u := u) r; have := size_pos u; show size (put n u l) + size (put n u r) + 1 ≤ (size l + size r + 1) * size u; rw [Nat.add_mul, Nat.add_mul]; omega
theorem wof_nil (o : Option Tr) : ((wof o).map Stp.w = []) ↔ o = none := by
  cases o with
  | none => exact ⟨fun _ => rfl, fun _ => rfl⟩
  | some t =>
    constructor
    · intro h
      have h1 := congrArg List.length h
      rw [List.length_map] at h1
      have h2 : (pst t).length = 0 := h1
      have h3 : 1 ≤ (pst t).length := by cases t <;> simp [pst] <;> omega
      omega
    · intro h; cases h
theorem w_asc {s : Stp} (h : okS s) : asc s.w := by
  rcases w_word h with ⟨o, rfl⟩ | rfl | ⟨d, rfl⟩ | ⟨h1, h2⟩
  · intro c hc; cases List.mem_singleton.mp hc; cases o <;> decide
  · intro c hc; cases List.mem_singleton.mp hc; decide
  · intro c hc
    have h9 : d ≤ 9 := h
    rcases List.mem_cons.mp hc with rfl | hc
    · decide
    · cases List.mem_singleton.mp hc; omega
  · intro c hc
    have h3 := h2 c hc
    unfold nsg let_ dig at h3
    simp at h3
    omega
theorem txt_plus_ne (t : Tr) : txt t ≠ txt (.op .add t (.num [49])) := by
  intro h
  have h1 := congrArg List.length h
  have h2 : txt (.op .add t (.num [49])) = txt t ++ [32, 43, 32] ++ [49] := by
    unfold txt
    show brk (wr t) 0 ++ [32, 43, 32] ++ brk (wr (.num [49])) 1 = _
    simp [brk, wr]
  rw [h2] at h1
  simp at h1
section
variable {P : Program} {w : World} {K : PySem.W.Frag} {mg : Str → Option Value} {base : Heap}
section
variable {α β : Type} {r : Rp α} {s : Rp β} {σ : L2.St} {Hk : Hp} {ta tb te : TE} {x : α} {t u : Tr} {Ew : XK}
/-- Formula(text) -/
theorem e_make (T : Txt w K mg) {z : W} (h : E rW ta σ Hk z) (hr : Pl.read z = some t) (hl : z.length ≤ 20000) (hb : bnd t) : E (rFm T.cF) (tMake T.cF (spFi K T.cF T.cB) [.non] Ew (tCons ta tNil)) σ Hk t := fun H e Q q => h H e _ fun v H2 F g hv => fun a dx ha hdx hne => by
  cases hv
  have g0 := (GM.start e).grow g
  have g1 := g0.newk (u := .own a) hdx
  have ha2 : upd H2 dx (.own a) a = none := by rw [upd_ne (Ne.symm hne)]; exact ha
  have g2 := g1.new (u := .ins T.cF dx []) ha2
  refine ⟨_, _, a, dx, .str (S z), .non, some t, rfl, g2.g.f, g2.m, upd_same, .inr ⟨rfl, some z, ⟨rfl, hl⟩, hr, fun t' ht => by cases ht; exact hb⟩, fun t' ht H3 F3 M3 fs gg hm hf => ⟨rfl, ?_⟩, fun z => nomatch z⟩
  cases ht
  have hHa : H a = none := g.h.free ha
  have g3 := (g2.trans gg).give hm (by rw [sub_em]; exact hHa)
  exact q (.ref a) H3 _ g3.done ⟨a, dx, fs, rfl, upd_same, hf.up (Ex.new ((g2.trans gg).fm hm))⟩
theorem e_eqF (T : Txt w K mg) (ha : E (rFm T.cF) ta σ Hk t) (hb : E (rFm T.cF) tb σ Hk u) : E rBl (tOp (rEqO T.cF (sp2 (rFm T.cF) (rFm T.cF) rBl (fun _ _ => True) fun t u => decide (txt t = txt u)) E0) ta tb) σ Hk (decide (txt t = txt u)) := fun H e Q q => two ha hb H e _ fun v w H2 F g hv hw => by
  obtain ⟨a, dx, fs, rfl, ha, hf⟩ := hv
  obtain ⟨b, dy, gs, rfl, hb, hg⟩ := hw
  exact ⟨a, b, dx, dy, fs, gs, rfl, rfl, g.f _ _ ha, g.f _ _ hb, F, g.f, .ref a, t, .ref b, u, rfl, ⟨a, dx, fs, rfl, ha, hf⟩, ⟨b, dy, gs, rfl, hb, hg⟩, trivial, fun v' H' F' g' hv' => ⟨_, hv', q v' H' F' (g.trans g') hv'⟩⟩
theorem e_right {C : Addr} (ha : E (rFm C) ta σ Hk t) (hb : E rF tb σ Hk t) (hp : preT t) : E rBl (tCall (spRt C) [] Ew (tCons ta (tCons tb tNil))) σ Hk true :=
  e_call (ea_cons ha (ea_cons hb ea_nil)) fun F H vs Q ex hp' q => by
    obtain ⟨v, ws, rfl, hv, v2, ws2, rfl, hv2, hn⟩ := hp'
    cases hn
    exact ⟨F, ex, v, v2, t, rfl, hv, hv2, hp, q⟩
theorem e_read {C : Addr} {o : Option W} (ha : E (rFV K) ta σ Hk o) (hb : ∀ t, readO o = some t → bnd t) : E (rOpt (rFm C)) (tCall (spRead K C) [] Ew (tCons ta tNil)) σ Hk (readO o) :=
  e_call (ea_cons ha ea_nil) fun F H vs Q ex hp' q => by
    obtain ⟨v, ws, rfl, hv, hn⟩ := hp'
    cases hn
    exact ⟨F, ex, v, o, rfl, hv, hb, q⟩
theorem e_fvW {z : W} (h : E rW ta σ Hk z) (hl : z.length ≤ 20000) : E (rFV K) ta σ Hk (some z) := fun H e Q q => h H e Q fun v H2 F g hv => q v H2 F g ⟨hv, hl⟩
theorem e_fvN {tn : Value} (h : E r ta σ Hk x) (ht : ∀ H v, r H v x → ∀ H', Ex H H' → TyX K H' v tn) (hk : PySem.W.kitOne K tn (.type "str") = some false) : E (rFV K) ta σ Hk none := fun H e Q q => h H e Q fun v H2 F g hv => q v H2 F g ⟨tn, fun H' e' => ht F v hv H' e', hk⟩
theorem e_tabF {n : W} (ha : ∀ H Q, Ex Hk H → Q (.str (S n)) H → ta σ H Q) (hb : E rF tb σ Hk u) : E rTabF (tDisp [(ta, tb)]) σ Hk (n, u) := fun H e Q q p hp => by
  have e1 : Ex Hk (upd H p (.dK [])) := e.trans (Ex.new hp)
  have hkp : Hk p = none := e.free hp
  refine ha _ _ e1 (hb _ e1 _ fun v H2 F g hv => ?_)
  have hp2 : H2 p = some (.dK []) := g.h _ _ upd_same
  refine ⟨hp2, [(.inr (S n), v)], rfl, by show 1 ≤ 15; decide, ?_⟩
  have fp : F p = none := by
    cases z : F p with
    | none => rfl
    | some o => have := g.n p hkp (by rw [z]; exact fun z => nomatch z); rw [upd_same] at this; cases this
  refine q _ _ (upd F p (.dK [(.inr (S n), v)])) ⟨fun a o h => ?_, g.k.trans (Ex.new fp), fun a o h => ?_, fun a h1 h2 => ?_⟩ ⟨p, v, rfl, upd_same, up (r := rF) (Ex.new fp) hv⟩
  · have na : a ≠ p := ne_of_none h hp
    rw [upd_ne na]
    exact g.h _ _ (by rw [upd_ne na]; exact h)
  · by_cases z : a = p
    · subst z; rw [upd_same] at h ⊢; exact h
    · rw [upd_ne z] at h ⊢; exact g.f _ _ h
  · by_cases z : a = p
    · subst z; exact hp
    · rw [upd_ne z] at h2
      have := g.n a h1 h2
      rwa [upd_ne z] at this
theorem e_putin {C : Addr} {tc : TE} {n : W} (ha : E (rFm C) ta σ Hk t) (hb : E rW tb σ Hk n) (hc : E (rFm C) tc σ Hk u) (hp : preT t) (hp2 : preT (put n u t)) : E (rFm C) (tCallK (spPi C) (gk 2) Ew (tCons ta (tCons tb tNil)) (tCons tc tNil)) σ Hk (put n u t) := fun H e Q q =>
  (ea_cons ha (ea_cons hb ea_nil)) H e _ fun vs H2 F g hp' => by
    obtain ⟨v, ws, rfl, hv, v2, ws2, rfl, hv2, hn⟩ := hp'
    cases hn
    refine ((ea_cons hc ea_nil).mono g.k) H2 g.f _ fun zs H3 F3 g3 hp3 => ?_
    obtain ⟨v3, ws3, rfl, hv3, hn3⟩ := hp3
    cases hn3
    exact ⟨F3, g3.f, v, t, v2, n, v3, u, rfl, up (r := rFm C) g3.k hv, hv2, hv3, hp, hp2, fun v' H' F' g' hv' => q v' H' F' ((g.trans g3).trans g') hv'⟩
/-- due == [] -/
theorem e_dueW {o : Option Tr} (h : E rO ta σ Hk o) : E (rLst rW) ta σ Hk ((wof o).map Stp.w) := fun H e Q q => h H e Q fun v H2 F g ⟨p, vs, hv, hp, hl⟩ => q v H2 F g ⟨p, vs, hv, hp, by
  have : ∀ {vs : List V} {l : List Stp}, Paired (rWd F) vs l → Paired (rW F) vs (l.map Stp.w) := fun {vs l} h => by
    induction h with
    | nil => exact .nil
    | cons a t ih => exact .cons a ih
  exact this hl⟩
theorem due_asc {o : Option Tr} (h : ∀ t, o = some t → ok t) : ∀ x ∈ (wof o).map Stp.w, asc x := fun x hx => by
  obtain ⟨s, hs, rfl⟩ := List.mem_map.mp hx
  cases o with
  | none => cases hs
  | some t => exact w_asc (okS_pst (h t rfl) s hs)
end
theorem ty_N {o : Unit} : ∀ H v, rNon H v o → ∀ H', Ex H H' → TyX K H' v (.type "NoneType") := fun _ v h _ _ => by cases h; exact .base .non
theorem ty_B {b : Bool} : ∀ H v, rBl H v b → ∀ H', Ex H H' → TyX K H' v (.type "bool") := fun _ v h _ _ => by cases h; exact .base (.bl _)
theorem kNS : PySem.W.kitOne K (.type "NoneType") (.type "str") = some false := kit_ty (by decide +kernel)
theorem kBS : PySem.W.kitOne K (.type "bool") (.type "str") = some false := kit_ty (by decide +kernel)
theorem kIS : PySem.W.kitOne K (.type "int") (.type "str") = some false := kit_ty (by decide +kernel)
theorem kDS : PySem.W.kitOne K (.type "dict") (.type "str") = some false := kit_ty (by decide +kernel)
end
end F1

set_option Elab.async false
set_option linter.all false
set_option autoImplicit false
set_option maxRecDepth 100000
set_option maxHeartbeats 8000000
/-! # The law keeps its promise -/
namespace F1
open PySem L2 Y
open Pl hiding Sp Ss PA PB RA RW RP RS
theorem tex_bnd {t : Tr} {H : Nat} {x : W} (h : Tex t H x) (hH : H ≤ 18) (hz : size t ≤ 110) : bnd t := by
  have h0 : read (x ++ [] ++ []) = some t := by simpa using h.rd
  obtain ⟨a, b, c⟩ := bent_ok (a := x) (r := []) (b := []) (s := []) (t := t) (t' := t) (H := H) (by simpa using h) (.inl rfl) (.inl rfl) h0
  have hok := read_ok h.rd
  exact ⟨⟨hok, by omega⟩, by rw [depth_txt hok]; omega, by omega⟩
theorem bnd_pre {t : Tr} (h : bnd t) : preT t := ⟨h.1, by have := h.2.2; omega⟩
section
variable {P : Program} {w : World} {K : PySem.W.Frag} {mg : Str → Option Value} {base : Heap}
theorem j_read {C : Addr} {o : Addr} {σ : L2.St} {Hk : Hp} {ta : TE} {Ew : XK} (h : EJ o (rFV K) (fun z => readO z = none) ta σ Hk) :
    EJ o rBl (fun b => b = false) (tOp (fun x y H Q => y = V.non ∧ Q (.bl (!decide (x = .non))) H) (tCall (spRead K C) [] Ew (tCons ta tNil)) (tC .non)) σ Hk := fun K0 H0 M0 F0 H M g e J Q q =>
  h K0 H0 M0 F0 H M g e J _ fun v x H' F M' g2 e2 J2 hm hv hx => by
    have hx : readO x = none := hx
    refine ⟨F, g2.f, v, x, rfl, hv, (fun t ht => by rw [hx] at ht; cases ht), fun u H2 F2 gr hu => ?_⟩
    rw [hx] at hu
    cases hu
    exact ⟨rfl, q _ false H2 F2 M' (g2.grow gr) (e2.trans gr.k) (J2.up gr.k) hm rfl rfl⟩
theorem e_isN0 {σ : L2.St} {Hk : Hp} {i : Nat} {v : V} {b : Bool} (hi : σ[i]? = some (some v)) (hb : decide (v = .non) = b) : E rBl (tOp (fun x y H Q => y = V.non ∧ Q (.bl (decide (x = .non))) H) (tVar i) (tC .non)) σ Hk b := fun H e Q q => ⟨v, hi, rfl, q _ H _ (Grow.refl e) (by rw [hb]; rfl)⟩
theorem e_tup1 {α : Type} {r : Rp α} [Mono r] {σ : L2.St} {Hk : Hp} {ta : TE} {x : α} (h : E r ta σ Hk x) : E (rTup r) (tTup (tCons ta tNil)) σ Hk [x] := fun H e Q q => h H e _ fun v H2 F g hv =>
  ⟨by show 1 ≤ sizeLine; decide, fun p hp => q (.ref p) _ _ (g.new hp) ⟨p, _, rfl, upd_same, .cons (up (Ex.new (g.f.free hp)) hv) .nil⟩⟩
theorem e_dnew {σ : L2.St} {Hk : Hp} : E (rFV K) tDNewK σ Hk none := fun H e Q q p hp => by
  have hk := e.free hp
  exact q (.ref p) _ (upd Hk p (.dK [])) ((Grow.refl e).new hp) ⟨.type "dict", fun H' e' => .base (.dK (e' p _ upd_same)), kDS⟩
def spLaw (K : PySem.W.Frag) : Sp := fun vs H Q _ => ∃ a, ∃ ns : List Int, vs = [.ref a] ∧ SqL K H a (ns.map V.int) ∧ ns.length ≤ 63 ∧ ∀ H', Q (.bl true) H'
theorem ok_law (T : Txt w K mg) : FnOk P w K mg base CX0 210 T.d_law.a T.d_law.fd ["script"] (spLaw K) := by
  refine T.d_law.F.ok sc_law (fun vs H Q Ew h => ?_) (fun cdv A outer s H vs Q Ew hr h => ?_)
  · obtain ⟨_, _, rfl, _⟩ := h; rfl
  · obtain ⟨a0, ns, rfl, hS, hl, q⟩ := h
    refine ⟨_, (pss_cons (ps_set (i := 1) sc_law.nd rfl (Or.inl rfl) (pe_call (ok__law_jar T) (hr.mono (by decide)) (by rfl) T.g__law_jar T.d__law_jar.F.kp T.d__law_jar.b .nil pass0 (pa_cons (pv 0) pa_nil)))
      (pss_cons (ps_set (i := 2) sc_law.nd rfl (Or.inl rfl) (pe_call (ok__law_labels T) (hr.mono (by decide)) (by rfl) T.g__law_labels T.d__law_labels.F.kp T.d__law_labels.b .nil pass0 (pa_cons (pv 1) pa_nil)))
      (pss_cons (ps_set (i := 3) sc_law.nd rfl (Or.inl rfl) (pe_call (ok__law_any T) (hr.mono (by decide)) (by rfl) T.g__law_any T.d__law_any.F.kp T.d__law_any.b .nil pass0 (pa_cons (pv 1) (pa_cons (pv 2) (pa_cons (pe_call (ok__law_draw T) (hr.mono (by decide)) (by rfl) T.g__law_draw T.d__law_draw.F.kp T.d__law_draw.b .nil pass0 (pa_cons (pv 1) (pa_cons pe_int pa_nil))) pa_nil)))))
      (pss_cons (ps_set (i := 4) sc_law.nd rfl (Or.inl rfl) (pe_call (ok__law_loose T) (hr.mono (by decide)) (by rfl) T.g__law_loose T.d__law_loose.F.kp T.d__law_loose.b .nil pass0 (pa_cons (pv 1) (pa_cons (pv 3) pa_nil))))
      (pss_cons (ps_set (i := 5) sc_law.nd rfl (Or.inl rfl) (pe_make (dvs := [V.non]) T.mk_Formula (ok_Formula_init T) (hr.mono (by decide)) rfl T.g_Formula T.d_Formula_init.b (.cons rfl .nil) passLN (pa_cons (pv 4) pa_nil)))
      (pss_cons (ps_if (PW.pt (pw_or (pt_not (pt_val (pe_call (ok__law_right T) (hr.mono (by decide)) (by rfl) T.g__law_right T.d__law_right.F.kp T.d__law_right.b .nil pass0 (pa_cons (pv 5) (pa_cons (pv 3) pa_nil))))) (pw_or (pt_not (pt_cmpR (op_eqO (ok_Formula_eq T) (hr.mono (by decide)) T.eqF T.eqFn T.d_Formula_eq.b pass0) (pv 5) (pe_make (dvs := [V.non]) T.mk_Formula (ok_Formula_init T) (hr.mono (by decide)) rfl T.g_Formula T.d_Formula_init.b (.cons rfl .nil) passLN (pa_cons (pe_call (ok__law_text T) (hr.mono (by decide)) (by rfl) T.g__law_text T.d__law_text.F.kp T.d__law_text.b .nil pass0 (pa_cons (pv 3) pa_nil)) pa_nil)) (nomark _))) (pw_or1 (pt_cmpR (op_eqO (ok_Formula_eq T) (hr.mono (by decide)) T.eqF T.eqFn T.d_Formula_eq.b pass0) (pv 5) (pe_make (dvs := [V.non]) T.mk_Formula (ok_Formula_init T) (hr.mono (by decide)) rfl T.g_Formula T.d_Formula_init.b (.cons rfl .nil) passLN (pa_cons (pe_op op_add_str (pe_call (ok__law_text T) (hr.mono (by decide)) (by rfl) T.g__law_text T.d__law_text.F.kp T.d__law_text.b .nil pass0 (pa_cons (pv 3) pa_nil)) pe_str) pa_nil)) (nomark _)))))) (pss_one (ps_ret pe_bl)) pss_nil)
      (pss_cons (ps_if (pt_not (pt_val (pe_call (ok__law_degrees_right T) (hr.mono (by decide)) (by rfl) T.g__law_degrees_right T.d__law_degrees_right.F.kp T.d__law_degrees_right.b .nil pass0 (pa_cons (pv 1) (pa_cons (pv 5) (pa_cons (pv 3) pa_nil)))))) (pss_one (ps_ret pe_bl)) pss_nil)
      (pss_cons (ps_for PassesOwn.never rfl (pi_range1 (by rfl) T.n_range (pa_cons pe_int pa_nil)) (pg_name (i := 6) sc_law.nd rfl (Or.inl rfl) (hf := Or.inr rfl))
      (pss_cons (ps_set (i := 7) sc_law.nd rfl (Or.inl rfl) (pe_call (ok__law_bent T) (hr.mono (by decide)) (by rfl) T.g__law_bent T.d__law_bent.F.kp T.d__law_bent.b .nil pass0 (pa_cons (pv 1) (pa_cons (pe_ifExp (pt_cmpR op_lt (pv 6) pe_int (nomark _)) (pv 4) (pe_call (ok__law_text T) (hr.mono (by decide)) (by rfl) T.g__law_text T.d__law_text.F.kp T.d__law_text.b .nil pass0 (pa_cons (pv 3) pa_nil))) pa_nil))))
      (pss_cons (ps_set (i := 8) sc_law.nd rfl (Or.inl rfl) (pe_call (ok__law_parse T) (hr.mono (by decide)) (by rfl) T.g__law_parse T.d__law_parse.F.kp T.d__law_parse.b .nil pass0 (pa_cons (pv 7) pa_nil)))
      (pss_cons (ps_set (i := 9) sc_law.nd rfl (Or.inl rfl) (pe_call (ok__law_read T) (hr.mono (by decide)) (by rfl) T.g__law_read T.d__law_read.F.kp T.d__law_read.b .nil pass0 (pa_cons (pv 7) pa_nil)))
      (pss_one (ps_if (PW.pt (pw_or (PW.pt (pw_and (pt_cmpR (op_eqD hr.units) (pv 8) (pe_lst pa_nil) (nomark _)) (pw_and1 (pt_cmpR op_notN (pv 9) pe_non (nomark _))))) (pw_or1 (PW.pt (pw_and (pt_cmpR (op_neD hr.units) (pv 8) (pe_lst pa_nil) (nomark _)) (pw_and1 (PW.pt (pw_or (pt_cmpR op_isN (pv 9) pe_non (nomark _)) (pw_or1 (pt_not (pt_val (pe_call (ok__law_right T) (hr.mono (by decide)) (by rfl) T.g__law_right T.d__law_right.F.kp T.d__law_right.b .nil pass0 (pa_cons (pv 9) (pa_cons (pv 8) pa_nil)))))))))))))) (pss_one (ps_ret pe_bl)) pss_nil))))))
      (pss_cons (ps_if (pt_cmpR op_notN (pe_call (ok__law_read T) (hr.mono (by decide)) (by rfl) T.g__law_read T.d__law_read.F.kp T.d__law_read.b .nil pass0 (pa_cons (pe_call (ok__law_pick T) (hr.mono (by decide)) (by rfl) T.g__law_pick T.d__law_pick.F.kp T.d__law_pick.b .nil pass0 (pa_cons (pv 1) (pa_cons (pe_lst (pa_cons pe_non (pa_cons pe_int (pa_cons pe_bl (pa_cons (pe_lst (pa_cons pe_str pa_nil)) (pa_cons pe_str (pa_cons pe_str (pa_cons pe_dnewK (pa_cons (pe_tup (pa_cons pe_str pa_nil)) (pa_cons pe_str (pa_cons pe_str (pa_cons pe_str (pa_cons pe_str (pa_cons pe_str (pa_cons pe_str (pa_cons pe_str (pa_cons pe_str (pa_cons pe_str (pa_cons pe_str pa_nil))))))))))))))))))) pa_nil))) pa_nil)) pe_non (nomark _)) (pss_one (ps_ret pe_bl)) pss_nil)
      (pss_cons (ps_set (i := 10) sc_law.nd rfl (Or.inl rfl) (pe_call (ok__law_any T) (hr.mono (by decide)) (by rfl) T.g__law_any T.d__law_any.F.kp T.d__law_any.b .nil pass0 (pa_cons (pv 1) (pa_cons (pv 2) (pa_cons (pe_call (ok__law_draw T) (hr.mono (by decide)) (by rfl) T.g__law_draw T.d__law_draw.F.kp T.d__law_draw.b .nil pass0 (pa_cons (pv 1) (pa_cons pe_int pa_nil))) pa_nil)))))
      (pss_cons (ps_set (i := 11) sc_law.nd rfl (Or.inl rfl) (pe_call (ok__law_any T) (hr.mono (by decide)) (by rfl) T.g__law_any T.d__law_any.F.kp T.d__law_any.b .nil pass0 (pa_cons (pv 1) (pa_cons (pv 2) (pa_cons (pe_call (ok__law_draw T) (hr.mono (by decide)) (by rfl) T.g__law_draw T.d__law_draw.F.kp T.d__law_draw.b .nil pass0 (pa_cons (pv 1) (pa_cons pe_int pa_nil))) pa_nil)))))
      (pss_cons (ps_set (i := 12) sc_law.nd rfl (Or.inl rfl) (pe_call (ok__law_pick T) (hr.mono (by decide)) (by rfl) T.g__law_pick T.d__law_pick.F.kp T.d__law_pick.b .nil pass0 (pa_cons (pv 1) (pa_cons (pe_slice (sl_listK (K := K) rfl) (pv 2) po_none (po_some pe_int)) pa_nil))))
      (pss_cons (ps_set (i := 13) sc_law.nd rfl (Or.inl rfl) (pe_callK (ok_put_in T) (hr.mono (by decide)) (by rfl) T.g_put_in T.d_put_in.F.kp T.kb_put_in pass0 (pa_cons (pe_make (dvs := [V.non]) T.mk_Formula (ok_Formula_init T) (hr.mono (by decide)) rfl T.g_Formula T.d_Formula_init.b (.cons rfl .nil) passLN (pa_cons (pe_call (ok__law_text T) (hr.mono (by decide)) (by rfl) T.g__law_text T.d__law_text.F.kp T.d__law_text.b .nil pass0 (pa_cons (pv 10) pa_nil)) pa_nil)) (pa_cons (pv 12) pa_nil)) (pk_cons (pe_make (dvs := [V.non]) T.mk_Formula (ok_Formula_init T) (hr.mono (by decide)) rfl T.g_Formula T.d_Formula_init.b (.cons rfl .nil) passLN (pa_cons (pe_call (ok__law_text T) (hr.mono (by decide)) (by rfl) T.g__law_text T.d__law_text.F.kp T.d__law_text.b .nil pass0 (pa_cons (pv 11) pa_nil)) pa_nil)) pk_nil)))
      (pss_one (ps_ret (pe_call (ok__law_right T) (hr.mono (by decide)) (by rfl) T.g__law_right T.d__law_right.F.kp T.d__law_right.b .nil pass0 (pa_cons (pv 13) (pa_cons (pe_call (ok__law_put T) (hr.mono (by decide)) (by rfl) T.g__law_put T.d__law_put.F.kp T.d__law_put.b .nil pass0 (pa_cons (pv 10) (pa_cons (pe_disp (pps_cons (pv 12) (pv 11) pps_nil) (by rfl) (by rfl) (fun z => by cases z) (by decide)) pa_nil))) pa_nil)))))))))))))))))), ?_⟩
    refine ⟨_, rfl, H, Ex.refl H, .ref a0, ns, rfl, ⟨a0, rfl, hS⟩, hl, fun o H1 F1 M1 g1 J1 => ?_⟩
    dsimp only [gName, List.set, L2.start]
    refine j_c0 (Hk := F1) (s := rLst rW) (post := nmL) rfl _ _ _ _ _ _ g1 (Ex.refl _) J1 _ fun lv l H2 F2 M2 g2 e2 J2 hm2 hlv hll => ?_
    dsimp only [List.set]
    refine j_c2 (Hk := F2) (s := rF) (P1 := nmL) (P3 := fun n => 0 ≤ n ∧ n < 15) rfl (EJ.of (e_var hlv rfl) hll) (j_d (n := 15) rfl e_int (by decide) (by decide)) (fun x y h1 h2 => ⟨h1, h2.1, by omega⟩) _ _ _ _ _ _ g2 (Ex.refl _) J2 _ fun fv t H3 F3 M3 g3 e3 J3 hm3 hfv ⟨_, n, _, hn, hgr⟩ => ?_
    dsimp only [List.set]
    obtain ⟨b1, b2, b3, b4⟩ := grn_bounds hgr (by omega)
    refine j_c1 (Hk := F3) (s := rW) (P1 := fun u => u = t) rfl (EJ.of (e_var hfv rfl) rfl) (fun x hx => by subst hx; exact ⟨b1, b2, by omega⟩) _ _ _ _ _ _ g3 (Ex.refl _) J3 _ fun wv x H4 F4 M4 g4 e4 J4 hm4 hwv ⟨t', ht', tx⟩ => ?_
    cases hwv
    have tx : Tex t (ht t) x := by rw [← ht']; exact tx
    dsimp only [List.set]
    have hbt : bnd t := tex_bnd tx (by omega) (by omega)
    have hpt := bnd_pre hbt
    have hxl := tx.ln
    have ttx := tex_txt b1 b2
    have htl := ttx.ln
    have tpl := tex_plus b1 b2
    have hpl := tpl.ln
    have hps : size (.op .add t (.num [49])) = size t + 2 := rfl
    refine g_set (K := F4) (r := rFm T.cF) (x := t) (e_make T (e_var (r := rW) (x := x) rfl rfl) tx.rd (by omega) hbt) g4 fun ov H5 F5 g5 e5 hov => ?_
    dsimp only [List.set]
    have J5 := J4.up e5
    have hfv5 : rF F5 fv t := up (r := rF) (e4.trans e5) hfv
    have vg : ∀ {F a b c d e f g' h i j k l m}, Ex F5 F → E rF (tVar 3) [a, b, c, some fv, d, e, f, g', h, i, j, k, l, m] F t := fun e => e_var (up (r := rF) e hfv5) rfl
    have vo : ∀ {F a b c d e f g' h i j k l m}, Ex F5 F → E (rFm T.cF) (tVar 5) [a, b, c, d, e, some ov, f, g', h, i, j, k, l, m] F t := fun e => e_var (up (r := rFm T.cF) e hov) rfl
    have vx : ∀ {F a b c d e f g' h i j k l m}, E rW (tVar 4) [a, b, c, d, some (.str (S x)), e, f, g', h, i, j, k, l, m] F x := e_var rfl rfl
    refine g_if (b := false) ((t_or (t_not (t_b (e_right (vo g5.jle) (vg g5.jle) hpt))) fun _ => t_or (t_not (t_test (e_eqF T (vo g5.jle) (e_make T (e_c1 (f := txt) (vg g5.jle) hpt) ttx.rd (by omega) hbt)))) fun _ => t_test (e_eqF T (vo g5.jle) (e_make T (e_catW (e_c1 (f := txt) (vg g5.jle) hpt) (e_w (a := [32, 43, 32, 49]) (by decide +kernel)) (by show _ + 4 ≤ _; omega)) tpl.rd (by omega) (tex_bnd tpl (by omega) (by omega))))).as ?_) g5 (fun z => nomatch z) fun _ H6 g6 => ?_
    · rw [decide_eq_true rfl, decide_eq_false (txt_plus_ne t)]; rfl
    dsimp only [tNext]
    refine g_ifJ (TJ.not (TJ.b (j_c2 (Hk := F5) (s := rBl) (P1 := fun u => u = t) (P3 := fun u => u = t) rfl (EJ.of (vo (Ex.refl _)) rfl) (EJ.of (vg (Ex.refl _)) rfl) (fun x y h1 h2 => by subst h1; subst h2; exact ⟨rfl, hpt⟩)))) g6 (Ex.refl _) J5 fun b H7 F7 M7 g7 e7 J7 hm7 hb => ?_
    obtain ⟨_, _, _, _, hb⟩ := hb
    have hb : b = false := by cases b <;> simp_all
    subst hb
    rw [if_neg (by decide)]
    dsimp only [tNext]
    have e57 := e7
    refine g_forI (R := fun i _ v => v = .int (i : Int)) (K := F7) (it_range1 (n := 4) e_int (by decide) (by decide)) g7 (fun i F M' σ' => ∃ (a b c d : Option V), σ' = [some (.ref a0), some (.ref o), some lv, some fv, some (.str (S x)), some ov, a, b, c, d, none, none, none, none] ∧ Ex F7 F ∧ Jar F M' o)
      (fun F e => ⟨none, none, none, none, rfl, e, J7.up e⟩) ?_ (fun i F F' M' σ' e ⟨a, b, c, d, i1, i2, i3⟩ => ⟨a, b, c, d, i1, i2.trans e, i3.up e⟩) ?_
    · rintro F0 e0 i vi F M' σ' H' hi ⟨a, b, c, d, rfl, eF, JF⟩ g8 ef _ rfl
      dsimp only [gName, List.set]
      have e5F := e7.trans eF
      refine j_c1 (Hk := F) (s := rW) (P1 := fun y => Tex t (ht t) y) rfl (EJ.of (x := if decide ((i : Int) < 3) = true then x else txt t) (e_if (b := decide ((i : Int) < 3)) (t_test (e_b0 (p := fun i j => decide (i < j)) (e_var (x := (i : Int)) rfl rfl) e_int)) (fun c => by rw [if_pos c]; exact vx) (fun c => by rw [if_neg (by rw [c]; decide)]; exact e_c1 (f := txt) (vg e5F) hpt)) (by split; exact tx; exact ttx)) (fun y hy => by have := hy.ln; omega) _ _ _ _ _ _ g8 (Ex.refl _) JF _ fun yv y H9 F9 M9 g9 e9 J9 hm9 hyv ⟨y0, hy0, ya, yr, yb, ys, hya, hyb, hyr, hys⟩ => ?_
      cases hyv
      subst hya
      dsimp only [List.set]
      have hbl := bent_len hy0 hyr hys
      rw [← hyb] at hbl
      have hbk : ∀ t', Pl.read y = some t' → bnd t' := fun t' ht' => by
        rw [hyb] at ht'
        obtain ⟨k1, k2, k3⟩ := bent_ok hy0 hyr hys ht'
        have hok := read_ok ht'
        exact ⟨⟨hok, by omega⟩, by rw [depth_txt hok]; omega, by omega⟩
      refine g_set (K := F9) (r := rO) (x := Pl.read y) (e_c1 (r := rW) (x := y) (e_var rfl rfl) ⟨by omega, by omega⟩) g9 fun dv H10 F10 g10 e10 hdv => ?_
      dsimp only [List.set]
      refine g_set (K := F10) (r := rOpt (rFm T.cF)) (x := Pl.read y) (e_read (o := some y) (e_fvW (e_var rfl rfl) (by omega)) (fun t' ht' => hbk t' ht')) g10 fun tv H11 F11 g11 e11 htv => ?_
      dsimp only [List.set]
      have J11 : Jar F11 M9 o := (J9.up e10).up e11
      have e9b := e5F.trans (e9.trans (e10.trans e11))
      have eDue : ∀ {F σ}, Ex F11 F → σ[8]? = some (some dv) → E (rLst rW) (tVar 8) σ F ((wof (Pl.read y)).map Stp.w) := fun e hσ => e_dueW (e_var (up (r := rO) (e11.trans e) hdv) hσ)
      have hasc := due_asc (o := Pl.read y) (fun t' ht' => read_ok ht')
      have fin : ∀ H12, GM H H em F11 H12 M9 → ∃ F2 M2, GM H H em F2 H12 M2 ∧ Ex F0 F2 ∧ ∃ (a b c d : Option V), [some (.ref a0), some (.ref o), some lv, some fv, some (.str (S x)), some ov, some (.int (i : Int)), some (.str (S y)), some dv, some tv, none, none, none, none] = [some (.ref a0), some (.ref o), some lv, some fv, some (.str (S x)), some ov, a, b, c, d, none, none, none, none] ∧ Ex F7 F2 ∧ Jar F2 M2 o := fun H12 g12 =>
        ⟨F11, M9, g12, ef.trans (e9.trans (e10.trans e11)), _, _, _, _, rfl, eF.trans (e9.trans (e10.trans e11)), J11⟩
      cases hry : Pl.read y with
      | none =>
        rw [hry] at htv eDue hasc
        have htn : tv = .non := htv
        refine g_if (b := false) ((t_or (t_and (a := true) (b := false) ((t_test (e_eqNil hasc (eDue g11.jle rfl))).as (by rfl)) fun _ => t_test (fun H e Q q => ⟨tv, rfl, rfl, q _ H _ (Grow.refl e) (by rw [htn]; rfl)⟩)) fun _ => t_and (a := false) (b := false) ((t_test (e_neNil hasc (eDue g11.jle rfl))).as (by rfl)) fun z => nomatch z).as rfl) g11 (fun z => nomatch z) fun _ H12 g12 => ?_
        exact fin H12 g12
      | some t' =>
        rw [hry] at htv eDue hasc hdv
        have hne : ¬ ((wof (some t')).map Stp.w = []) := fun z => by cases (wof_nil _).mp z
        have hbt' := hbk t' hry
        obtain ⟨ta', dx', fs', htv1, htv2⟩ := htv
        refine g_if (b := false) ((t_or (t_and (a := false) (b := false) ((t_test (e_eqNil hasc (eDue g11.jle rfl))).as (decide_eq_false hne)) fun z => nomatch z) fun _ => t_and (a := true) (b := false) ((t_test (e_neNil hasc (eDue g11.jle rfl))).as (by rw [decide_eq_false hne]; rfl)) fun _ => ((t_or (t_test (e_isN0 (v := tv) (b := false) rfl (by rw [htv1]; rfl))) fun _ => t_not (t_b (e_right (C := T.cF) (t := t') (e_var (up (r := rFm T.cF) g11.jle ⟨ta', dx', fs', htv1, htv2⟩) rfl) (e_var (r := rF) (up (r := rO) (e11.trans g11.jle) hdv) rfl) (bnd_pre hbt')))).as rfl)).as rfl) g11 (fun z => nomatch z) fun _ H12 g12 => ?_
        exact fin H12 g12
    · rintro F M' σ' H' ⟨a, b, c, d, rfl, eF, JF⟩ g8 ef
      dsimp only [tSeq]
      have wS : ∀ {z : Str} (y : W) {σ : L2.St} {F : Hp}, S y = z → y.length ≤ 20000 → Pl.read y = none → EJ o (rFV K) (fun v => readO v = none) (tC (.str z)) σ F := fun {z} y {σ F} h1 h2 h3 => EJ.of (x := some y) (e_fvW (e_w h1) h2) h3
      have eN : ∀ {σ : L2.St} {F : Hp}, EJ o (rFV K) (fun v => readO v = none) (tC .non) σ F := fun {σ F} => EJ.of (x := none) (e_fvN (r := rNon) (x := ()) (e_c rfl) ty_N kNS) rfl
      have eI : ∀ {σ : L2.St} {F : Hp} {n : Int}, EJ o (rFV K) (fun v => readO v = none) (tC (.int n)) σ F := fun {σ F n} => EJ.of (x := none) (e_fvN (r := rInt) (x := n) e_int ty_I kIS) rfl
      have eB : ∀ {σ : L2.St} {F : Hp} {b : Bool}, EJ o (rFV K) (fun v => readO v = none) (tC (.bl b)) σ F := fun {σ F b} => EJ.of (x := none) (e_fvN (r := rBl) (x := b) e_bl ty_B kBS) rfl
      have eL : ∀ {σ : L2.St} {F : Hp}, EJ o (rFV K) (fun v => readO v = none) (L2.tLst (tCons (tC (.str "x")) tNil)) σ F := fun {σ F} => EJ.of (x := none) (e_fvN (r := rLst rW) (x := [[120]]) (en_one (e_w (a := [120]) (by decide +kernel))).e ty_L kLS) rfl
      have eT : ∀ {σ : L2.St} {F : Hp}, EJ o (rFV K) (fun v => readO v = none) (tTup (tCons (tC (.str "x")) tNil)) σ F := fun {σ F} => EJ.of (x := none) (e_fvN (r := rTup rW) (x := [[120]]) (e_tup1 (e_w (a := [120]) (by decide +kernel))) ty_T kTS) rfl
      have eD : ∀ {σ : L2.St} {F : Hp}, EJ o (rFV K) (fun v => readO v = none) tDNewK σ F := fun {σ F} => EJ.of (x := none) e_dnew rfl
      refine g_ifJ (Hk := F) (TJ.test (j_read (C := T.cF) ((j_pick (r := rFV K) (Pl := fun l => l.length = 18 ∧ ∀ x ∈ l, readO x = none) rfl (j_lst (ja_all eN (ja_all eI (ja_all eB (ja_all eL (ja_all (wS [] (by decide +kernel) (by decide) (by decide +kernel)) (ja_all (wS [32] (by decide +kernel) (by decide) (by decide +kernel)) (ja_all eD (ja_all eT
        (ja_all (wS [108, 101, 116] (by decide +kernel) (by decide) (by decide +kernel)) (ja_all (wS [120, 32, 121] (by decide +kernel) (by decide) (by decide +kernel)) (ja_all (wS [50, 94, 51, 94, 50] (by decide +kernel) (by decide) (by decide +kernel)) (ja_all (wS [120, 42, 45, 121] (by decide +kernel) (by decide) (by decide +kernel)) (ja_all (wS [40, 41] (by decide +kernel) (by decide) (by decide +kernel))
        (ja_all (wS [101, 120, 112] (by decide +kernel) (by decide) (by decide +kernel)) (ja_all (wS [101, 120, 112, 32, 120] (by decide +kernel) (by decide) (by decide +kernel)) (ja_all (wS [48, 55] (by decide +kernel) (by decide) (by decide +kernel)) (ja_all (wS [120, 94, 49, 48] (by decide +kernel) (by decide) (by decide +kernel)) (ja_all (wS [97, 98, 99, 100, 101, 102, 103, 104, 105] (by decide +kernel) (by decide) (by decide +kernel)) ja_all0)))))))))))))))))) (fun l h => by omega)) (fun l h => by omega)).imp fun x ⟨l, ⟨_, h2⟩, hx⟩ => h2 x hx))) g8 (Ex.refl _) JF fun b1' H9 F9 M9 g9 e9 J9 hm9 hb1 => ?_
      subst hb1
      rw [if_neg (by decide)]
      dsimp only [tNext]
      have elv := e2
      have llv : rLst rW F9 lv l := up (r := rLst rW) (e3.trans (e4.trans (e5.trans (e7.trans (eF.trans e9))))) hlv
      refine j_c2 (Hk := F9) (s := rF) (P1 := nmL) (P3 := fun n => 0 ≤ n ∧ n < 5) rfl (EJ.of (e_var llv rfl) hll) (j_d (n := 5) rfl e_int (by decide) (by decide)) (fun x y h1 h2 => ⟨h1, h2.1, by omega⟩) _ _ _ _ _ _ g9 (Ex.refl _) J9 _ fun sv ts H10 F10 M10 g10 e10 J10 hm10 hsv ⟨_, ni, _, hni, hgi⟩ => ?_
      dsimp only [gName, List.set]
      refine j_c2 (Hk := F10) (s := rF) (P1 := nmL) (P3 := fun n => 0 ≤ n ∧ n < 2) rfl (EJ.of (e_var (up (r := rLst rW) e10 llv) rfl) hll) (j_d (n := 2) rfl e_int (by decide) (by decide)) (fun x y h1 h2 => ⟨h1, h2.1, by omega⟩) _ _ _ _ _ _ g10 (Ex.refl _) J10 _ fun pv tp H11 F11 M11 g11 e11 J11 hm11 hpv ⟨_, nj, _, hnj, hgj⟩ => ?_
      dsimp only [gName, List.set]
      refine (j_pick (r := rW) (Pl := fun l' => l' = l.take 6) rfl (EJ.of (EN.e ((en_slice (e_var (up (r := rLst rW) (e10.trans e11) llv) rfl) eo_none (eo_some e_int)).as (cutL_to l 6))) rfl) (fun l' h => by subst h; rw [List.length_take]; have := hll.1; omega)) _ _ _ _ _ _ g11 (Ex.refl _) J11 _ fun nv n H12 F12 M12 g12 e12 J12 hm12 hnv ⟨l', hl', hnl⟩ => ?_
      subst hl'
      cases hnv
      dsimp only [gName, List.set]
      have hnn : isName n = true := hll.2 n (List.mem_of_mem_take hnl)
      obtain ⟨s1, s2, s3, s4⟩ := grn_bounds hgi (by omega)
      obtain ⟨p1, p2, p3, p4⟩ := grn_bounds hgj (by omega)
      have z1 : size ts ≤ 61 := by
        have h1 := grn_tiny hgi
        have h2 : 2 ^ ni.toNat ≤ 2 ^ 4 := Nat.pow_le_pow_right (by decide) (by omega)
        omega
      have z2 : size tp ≤ 5 := by
        have h1 := grn_tiny hgj
        have h2 : 2 ^ nj.toNat ≤ 2 ^ 1 := Nat.pow_le_pow_right (by decide) (by omega)
        omega
      have z3 : size (put n tp ts) ≤ 305 := by
        have h1 := put_size (n := n) (u := tp) ts
        have h2 : size ts * size tp ≤ 61 * 5 := Nat.mul_le_mul z1 z2
        omega
      have xs := tex_txt s1 s2
      have xp := tex_txt p1 p2
      have bs : bnd ts := tex_bnd xs (by omega) (by omega)
      have bp : bnd tp := tex_bnd xp (by omega) (by omega)
      have hput : preT (put n tp ts) := ⟨⟨put_ok p1 s1, by have := put_digs (n := n) (u := tp) ts; omega⟩, by omega⟩
      have ls := xs.ln
      have lp := xp.ln
      have hsv' : rF F12 sv ts := up (r := rF) (e11.trans e12) hsv
      have hpv' : rF F12 pv tp := up (r := rF) e12 hpv
      refine g_set (K := F12) (r := rFm T.cF) (x := put n tp ts) (e_putin (e_make T (e_c1 (f := txt) (e_var hsv' rfl) (bnd_pre bs)) xs.rd (by omega) bs) (e_var (r := rW) (x := n) rfl rfl) (e_make T (e_c1 (f := txt) (e_var hpv' rfl) (bnd_pre bp)) xp.rd (by omega) bp) (bnd_pre bs) hput) g12 fun mv H13 F13 g13 e13 hmv => ?_
      dsimp only [List.set]
      refine s_ret (K := F13) (r := rBl) (x := true) (e_right (C := T.cF) (t := put n tp ts) (e_var hmv rfl) (e_c2 (f := fun t p => put p.1 p.2 t) (x := ts) (y := (n, tp)) (e_var (up (r := rF) e13 hsv') rfl) (e_tabF (fun H Q e q => ⟨_, rfl, q⟩) (e_var (up (r := rF) e13 hpv') rfl)) ⟨s1, hnn, by omega, by show size (put n tp ts) ≤ 1000; omega⟩) hput) g13.f fun v14 H14 F14 g14 hv14 => ?_
      cases hv14
      exact q H14
end
end F1

set_option maxHeartbeats 0
set_option maxRecDepth 100000
section
open PySem PyProof.Rows PySem.Spec
namespace F1
open PySem L2 Y PySem.W
theorem exm_own {K : Frag} {C : Addr} (a : subIn K (.ref C) (.type "BaseException") = some true) (b : isClsIn K C = true) (c : typeIn K (.ref C) = some (.type "type")) (d : subIn K (.ref C) (.ref C) = some true) : exmOne K (.ref C) (.ref C) = some true := by
  have b' : (clsIn K C).isSome = true := b
  have c' : (typeIn K (.ref C) == some (Value.type "type")) = true := by rw [c]; rfl
  have a' : (subIn K (.ref C) (.type "BaseException") == some true) = true := by rw [a]; rfl
  show (if (subIn K (.ref C) (.type "BaseException") == some true) = true then (if ((clsIn K C).isSome && typeIn K (.ref C) == some (.type "type")) = true then subIn K (.ref C) (.ref C) else none) else none) = some true
  rw [a', b', c', d]; rfl
theorem kit_own {K : Frag} {C : Addr} : kitOne K (.ref C) (.ref C) = some true := by
  unfold kitOne
  rw [if_pos (by simp)]
theorem gk_eq {α : Type} {n m : Nat} {us ws : List α} (h : (gk n us ws).length = m) (hm : 0 < m) : us.length = n ∧ ws.length = 1 ∧ gk n us ws = us ++ ws := by
  unfold gk at h ⊢
  by_cases c : us.length = n ∧ ws.length = 1
  · rw [if_pos c]; exact ⟨c.1, c.2, rfl⟩
  · rw [if_neg c] at h; simp at h; omega
theorem gk_rel {n : Nat} {vs : List V} {us : List Value} {zs : List V} {ws : List Value} (h : Vals vs us) (h2 : Vals zs ws) : Vals (gk n vs zs) (gk n us ws) := by
  unfold gk
  rw [h.length, h2.length]
  by_cases c : us.length = n ∧ ws.length = 1
  · rw [if_pos c, if_pos c]; exact h.append h2
  · rw [if_neg c, if_neg c]; exact .nil
theorem vals_strs : ∀ (l : List Str) (us : List Value), Paired (fun x u => ∃ t, u = Value.str x t) l us → Vals (l.map V.str) us
  | _, _, .nil => .nil
  | _, _, .cons ⟨t, h⟩ r => .cons ⟨t, h⟩ (vals_strs _ _ r)
theorem all_mk {w : World} {K : Frag} {h : Heap} {mg : Str → Option Value} {fa : Addr} (X : K.In h) (G : h.Ns mainGlobals mg) (hfa : mg "law" = some (.ref fa))
  {cT cF cB cS aP aK aC aR aN aM DD : Addr} {restP : List Value}
  {eR eN eM : Array DictEntry} {mR mN mM : Nat}
  {nmB qB : Str} {NB : Addr} {bsB : List Value} {snB : List Str} {subB : List Value} {abB : Bool} {colB : Option Bool} {ddB : Option Addr} {b0 b1 b2 b3 b5 : Option Value}
  {nmS qS : Str} {NS : Addr} {bsS : List Value} {snS : List Str} {subS : List Value} {abS : Bool} {colS : Option Bool} {ddS : Option Addr} {s0 s1 s2 s3 s5 : Option Value}
  {odK odC : Option Addr} {nK nC : Nat} {slK slC : Array (Option Value)} {tk0 tk1 tk2 tk3 tk4 tk5 tk6 tk7 tk8 tk9 tk10 tk11 tk12 tk13 tk14 tk15 tk16 tk17 tk18 tk19 tc0 tc1 tc2 tc3 tc4 tc5 : Tok}
  {tg_LETTERS tg_NAME_SIGNS tg_SIGNS tg_NEGATIVE tg_NAME_LENGTH tg_ATOM tg_POWER tg_PRODUCT tg_SUM tg_TEXT tg_DIGITS tg_DEPTH tg_SIZE : Tok}
  {thR0 thR1 thR2 thR3 thR4 thN0 thN1 thN2 thN3 thM0 thM1 thM2 thM3 : Tok}
  {f0 : Addr} {od0 an0 : Option Addr} {sl0 : Array (Option Value)} {oc0 kV0 dc0 pm0 cd0 ct0 : Value}
  {f1 : Addr} {od1 an1 : Option Addr} {sl1 : Array (Option Value)} {oc1 kV1 dc1 pm1 cd1 ct1 : Value}
  {f2 : Addr} {od2 an2 : Option Addr} {sl2 : Array (Option Value)} {oc2 kV2 dc2 pm2 cd2 ct2 : Value}
  {f3 : Addr} {od3 an3 : Option Addr} {sl3 : Array (Option Value)} {oc3 kV3 dc3 pm3 cd3 ct3 : Value}
  {f4 : Addr} {od4 an4 : Option Addr} {sl4 : Array (Option Value)} {oc4 kV4 dc4 pm4 cd4 ct4 : Value}
  {f5 : Addr} {od5 an5 : Option Addr} {sl5 : Array (Option Value)} {oc5 kV5 dc5 pm5 cd5 ct5 : Value}
  {f6 : Addr} {od6 an6 : Option Addr} {sl6 : Array (Option Value)} {oc6 kV6 dc6 pm6 cd6 ct6 : Value}
  {f7 : Addr} {od7 an7 : Option Addr} {sl7 : Array (Option Value)} {oc7 kV7 dc7 pm7 cd7 ct7 : Value}
  {f8 : Addr} {od8 an8 : Option Addr} {sl8 : Array (Option Value)} {oc8 kV8 dc8 pm8 cd8 ct8 : Value}
  {f9 : Addr} {od9 an9 : Option Addr} {sl9 : Array (Option Value)} {oc9 kV9 dc9 pm9 cd9 ct9 : Value}
  {f10 : Addr} {od10 an10 : Option Addr} {sl10 : Array (Option Value)} {oc10 kV10 dc10 pm10 cd10 ct10 : Value}
  {f11 : Addr} {od11 an11 : Option Addr} {sl11 : Array (Option Value)} {oc11 kV11 dc11 pm11 cd11 ct11 : Value}
  {f12 : Addr} {od12 an12 : Option Addr} {sl12 : Array (Option Value)} {oc12 kV12 dc12 pm12 cd12 ct12 : Value}
  {f13 : Addr} {od13 an13 : Option Addr} {sl13 : Array (Option Value)} {oc13 kV13 dc13 pm13 cd13 ct13 : Value}
  {f14 : Addr} {od14 an14 : Option Addr} {sl14 : Array (Option Value)} {oc14 kV14 dc14 pm14 cd14 ct14 : Value}
  {f15 : Addr} {od15 an15 : Option Addr} {sl15 : Array (Option Value)} {oc15 kV15 dc15 pm15 cd15 ct15 : Value}
  {f16 : Addr} {od16 an16 : Option Addr} {sl16 : Array (Option Value)} {oc16 kV16 dc16 pm16 cd16 ct16 : Value}
  {f17 : Addr} {od17 an17 : Option Addr} {sl17 : Array (Option Value)} {oc17 kV17 dc17 pm17 cd17 ct17 : Value}
  {f18 : Addr} {od18 an18 : Option Addr} {sl18 : Array (Option Value)} {oc18 kV18 dc18 pm18 cd18 ct18 : Value}
  {f19 : Addr} {od19 an19 : Option Addr} {sl19 : Array (Option Value)} {oc19 kV19 dc19 pm19 cd19 ct19 : Value}
  {f20 : Addr} {od20 an20 : Option Addr} {sl20 : Array (Option Value)} {oc20 kV20 dc20 pm20 cd20 ct20 : Value}
  {f21 : Addr} {od21 an21 : Option Addr} {sl21 : Array (Option Value)} {oc21 kV21 dc21 pm21 cd21 ct21 : Value}
  {f22 : Addr} {od22 an22 : Option Addr} {sl22 : Array (Option Value)} {oc22 kV22 dc22 pm22 cd22 ct22 : Value}
  {f23 : Addr} {od23 an23 : Option Addr} {sl23 : Array (Option Value)} {oc23 kV23 dc23 pm23 cd23 ct23 : Value}
  {f24 : Addr} {od24 an24 : Option Addr} {sl24 : Array (Option Value)} {oc24 kV24 dc24 pm24 cd24 ct24 : Value}
  {f25 : Addr} {od25 an25 : Option Addr} {sl25 : Array (Option Value)} {oc25 kV25 dc25 pm25 cd25 ct25 : Value}
  {f26 : Addr} {od26 an26 : Option Addr} {sl26 : Array (Option Value)} {oc26 kV26 dc26 pm26 cd26 ct26 : Value}
  {f27 : Addr} {od27 an27 : Option Addr} {sl27 : Array (Option Value)} {oc27 kV27 dc27 pm27 cd27 ct27 : Value}
  {f28 : Addr} {od28 an28 : Option Addr} {sl28 : Array (Option Value)} {oc28 kV28 dc28 pm28 cd28 ct28 : Value}
  {f29 : Addr} {od29 an29 : Option Addr} {sl29 : Array (Option Value)} {oc29 kV29 dc29 pm29 cd29 ct29 : Value}
  {f30 : Addr} {od30 an30 : Option Addr} {sl30 : Array (Option Value)} {oc30 kV30 dc30 pm30 cd30 ct30 : Value}
  {f31 : Addr} {od31 an31 : Option Addr} {sl31 : Array (Option Value)} {oc31 dc31 pm31 cd31 ct31 : Value}
  {f32 : Addr} {od32 an32 : Option Addr} {sl32 : Array (Option Value)} {oc32 kV32 dc32 pm32 cd32 ct32 : Value}
  {f33 : Addr} {od33 an33 : Option Addr} {sl33 : Array (Option Value)} {oc33 kV33 dc33 pm33 cd33 ct33 : Value}
  {f34 : Addr} {od34 an34 : Option Addr} {sl34 : Array (Option Value)} {oc34 kV34 dc34 pm34 cd34 ct34 : Value}
  {f35 : Addr} {od35 an35 : Option Addr} {sl35 : Array (Option Value)} {oc35 kV35 dc35 pm35 cd35 ct35 : Value}
  {f36 : Addr} {od36 an36 : Option Addr} {sl36 : Array (Option Value)} {oc36 kV36 dc36 pm36 cd36 ct36 : Value}
  {f37 : Addr} {od37 an37 : Option Addr} {sl37 : Array (Option Value)} {oc37 kV37 dc37 pm37 cd37 ct37 : Value}
  {f38 : Addr} {od38 an38 : Option Addr} {sl38 : Array (Option Value)} {oc38 kV38 dc38 pm38 cd38 ct38 : Value}
  {f39 : Addr} {od39 an39 : Option Addr} {sl39 : Array (Option Value)} {oc39 kV39 dc39 pm39 cd39 ct39 : Value}
  {f40 : Addr} {od40 an40 : Option Addr} {sl40 : Array (Option Value)} {oc40 kV40 dc40 pm40 cd40 ct40 : Value}
  {f41 : Addr} {od41 an41 : Option Addr} {sl41 : Array (Option Value)} {oc41 kV41 dc41 pm41 cd41 ct41 : Value}
  {f42 : Addr} {od42 an42 : Option Addr} {sl42 : Array (Option Value)} {oc42 kV42 dc42 pm42 cd42 ct42 : Value}
  {f43 : Addr} {od43 an43 : Option Addr} {sl43 : Array (Option Value)} {oc43 kV43 dc43 pm43 cd43 ct43 : Value}
  {f44 : Addr} {od44 an44 : Option Addr} {sl44 : Array (Option Value)} {oc44 kV44 dc44 pm44 cd44 ct44 : Value}
  {f45 : Addr} {od45 an45 : Option Addr} {sl45 : Array (Option Value)} {oc45 kV45 dc45 pm45 cd45 ct45 : Value}
  {f46 : Addr} {od46 an46 : Option Addr} {sl46 : Array (Option Value)} {oc46 kV46 dc46 pm46 cd46 ct46 : Value}
  {f47 : Addr} {od47 an47 : Option Addr} {sl47 : Array (Option Value)} {oc47 kV47 dc47 pm47 cd47 ct47 : Value}
  {f48 : Addr} {od48 an48 : Option Addr} {sl48 : Array (Option Value)} {oc48 kV48 dc48 pm48 cd48 ct48 : Value}
  {f49 : Addr} {od49 an49 : Option Addr} {sl49 : Array (Option Value)} {oc49 kV49 dc49 pm49 cd49 ct49 : Value}
  {f50 : Addr} {od50 an50 : Option Addr} {sl50 : Array (Option Value)} {oc50 kV50 dc50 pm50 cd50 ct50 : Value}
  {f51 : Addr} {od51 an51 : Option Addr} {sl51 : Array (Option Value)} {oc51 kV51 dc51 pm51 cd51 ct51 : Value}
  {f52 : Addr} {od52 an52 : Option Addr} {sl52 : Array (Option Value)} {oc52 kV52 dc52 pm52 cd52 ct52 : Value}
  {f53 : Addr} {od53 an53 : Option Addr} {sl53 : Array (Option Value)} {oc53 kV53 dc53 pm53 cd53 ct53 : Value}
  {f54 : Addr} {od54 an54 : Option Addr} {sl54 : Array (Option Value)} {oc54 kV54 dc54 pm54 cd54 ct54 : Value}
  {f55 : Addr} {od55 an55 : Option Addr} {sl55 : Array (Option Value)} {oc55 kV55 dc55 pm55 cd55 ct55 : Value}
  {f56 : Addr} {od56 an56 : Option Addr} {sl56 : Array (Option Value)} {oc56 kV56 dc56 pm56 cd56 ct56 : Value}
  {f57 : Addr} {od57 an57 : Option Addr} {sl57 : Array (Option Value)} {oc57 kV57 dc57 pm57 cd57 ct57 : Value}
  {f58 : Addr} {od58 an58 : Option Addr} {sl58 : Array (Option Value)} {oc58 kV58 dc58 pm58 cd58 ct58 : Value}
  {f59 : Addr} {od59 an59 : Option Addr} {sl59 : Array (Option Value)} {oc59 kV59 dc59 pm59 cd59 ct59 : Value}
  {f60 : Addr} {od60 an60 : Option Addr} {sl60 : Array (Option Value)} {oc60 kV60 dc60 pm60 cd60 ct60 : Value}
  {f61 : Addr} {od61 an61 : Option Addr} {sl61 : Array (Option Value)} {oc61 kV61 dc61 pm61 cd61 ct61 : Value}
  {f62 : Addr} {od62 an62 : Option Addr} {sl62 : Array (Option Value)} {oc62 kV62 dc62 pm62 cd62 ct62 : Value}
  {f63 : Addr} {od63 an63 : Option Addr} {sl63 : Array (Option Value)} {oc63 kV63 dc63 pm63 cd63 ct63 : Value}
  {f64 : Addr} {od64 an64 : Option Addr} {sl64 : Array (Option Value)} {oc64 kV64 dc64 pm64 cd64 ct64 : Value}
  {f65 : Addr} {od65 an65 : Option Addr} {sl65 : Array (Option Value)} {oc65 kV65 dc65 pm65 cd65 ct65 : Value}
  {f66 : Addr} {od66 an66 : Option Addr} {sl66 : Array (Option Value)} {oc66 kV66 dc66 pm66 cd66 ct66 : Value}
  {f67 : Addr} {od67 an67 : Option Addr} {sl67 : Array (Option Value)} {oc67 kV67 dc67 pm67 cd67 ct67 : Value}
  {f68 : Addr} {od68 an68 : Option Addr} {sl68 : Array (Option Value)} {oc68 kV68 dc68 pm68 cd68 ct68 : Value}
  {f69 : Addr} {od69 an69 : Option Addr} {sl69 : Array (Option Value)} {oc69 kV69 dc69 pm69 cd69 ct69 : Value}
  (aCT : nsIn K mainGlobals "TreeReader" = some (some (.ref cT)))
  (c_pgT : plainGet K cT Str.empty = true)
  (c_hdT : hasDictIn K cT = true)
  (c_poT : plainOver K cT = true)
  (c_saT : findIn K (.ref cT) "__setattr__" = some (some (.builtin "object.__setattr__")))
  (c_mkT : makesIn K cT = true)
  (c_kpT : keepIn K (.ref cT) = true)
  (nT__words : findIn K (.ref cT) "_words" = some none)
  (nT__at : findIn K (.ref cT) "_at" = some none)
  (nT__trees : findIn K (.ref cT) "_trees" = some none)
  (nT__signs : findIn K (.ref cT) "_signs" = some none)
  (nT__has_operand : findIn K (.ref cT) "_has_operand" = some none)
  (nT__has_power : findIn K (.ref cT) "_has_power" = some none)
  (aCF : nsIn K mainGlobals "Formula" = some (some (.ref cF)))
  (c_pgF : plainGet K cF Str.empty = true)
  (c_hdF : hasDictIn K cF = true)
  (c_poF : plainOver K cF = true)
  (c_saF : findIn K (.ref cF) "__setattr__" = some (some (.builtin "object.__setattr__")))
  (c_mkF : makesIn K cF = true)
  (c_kpF : keepIn K (.ref cF) = true)
  (nF_tree : findIn K (.ref cF) "tree" = some none)
  (nF__text : findIn K (.ref cF) "_text" = some none)
  (nF_names : findIn K (.ref cF) "names" = some none)
  (nF_depth : findIn K (.ref cF) "depth" = some none)
  (nF_size : findIn K (.ref cF) "size" = some none)
  (c_ha : findIn K (.ref cF) "__class__" = some (some (.builtin "object.__class__")))
  (c_hn : specialIn K (.builtin "object.__class__") "__get__" = some (some (.builtin "getset_descriptor.__get__")))
  (c_ht : takesIn K (.builtin "object.__class__") = some true)
  (c_hm : mroIn K cF (.type "object") = some true)
  (aB : nsIn K mainGlobals "BadFormula" = some (some (.ref cB)))
  (xB : K.lookup cB = some (excClassObj nmB qB cB NB bsB [.type "ValueError", .type "Exception", .type "BaseException", .type "object"] true snB subB abB colB ddB b0 b1 b2 b3 b5 "ValueError.__new__"))
  (aS : nsIn K mainGlobals "NoSuch" = some (some (.ref cS)))
  (xS : K.lookup cS = some (excClassObj nmS qS cS NS bsS [.type "LookupError", .type "Exception", .type "BaseException", .type "object"] true snS subS abS colS ddS s0 s1 s2 s3 s5 "LookupError.__new__"))
  (n_saB : findIn K (.ref cB) "__setattr__" = some (some (.builtin "object.__setattr__")))
  (n_exB : subIn K (.ref cB) (.type "BaseException") = some true)
  (n_tyB : typeIn K (.ref cB) = some (.type "type"))
  (n_kpB : keepIn K (.ref cB) = true)
  (n_gaB : findIn K (.ref cB) "__getattribute__" = some (some (.builtin "BaseException.__getattribute__")))
  (n_ggB : findIn K (.ref cB) "__getattr__" = some none)
  (n_hdB : hasDictIn K cB = true)
  (n_icB : isClsIn K cB = true)
  (xB_code : findIn K (.ref cB) "code" = some none)
  (xB_why : findIn K (.ref cB) "why" = some none)
  (n_ssB : subIn K (.ref cB) (.ref cB) = some true)
  (n_saS : findIn K (.ref cS) "__setattr__" = some (some (.builtin "object.__setattr__")))
  (n_exS : subIn K (.ref cS) (.type "BaseException") = some true)
  (n_tyS : typeIn K (.ref cS) = some (.type "type"))
  (n_kpS : keepIn K (.ref cS) = true)
  (n_gaS : findIn K (.ref cS) "__getattribute__" = some (some (.builtin "BaseException.__getattribute__")))
  (n_ggS : findIn K (.ref cS) "__getattr__" = some none)
  (n_hdS : hasDictIn K cS = true)
  (n_icS : isClsIn K cS = true)
  (xS_code : findIn K (.ref cS) "code" = some none)
  (xS_name : findIn K (.ref cS) "name" = some none)
  (n_ssS : subIn K (.ref cS) (.ref cS) = some true)
  (v_V : findCls K (.type "ValueError") (.type "type") "__init__" = some (.val (.builtin "ValueError.__init__")))
  (v_L : findCls K (.type "LookupError") (.type "type") "__init__" = some (.val (.builtin "LookupError.__init__")))
  (aK_ : nsIn K mainGlobals "KEPT_WORDS" = some (some (.ref aK)))
  (kL : K.lookup aK = some ⟨.type "tuple", odK, .seq #[.str "sheet" tk0, .str "input" tk1, .str "given" tk2, .str "let" tk3, .str "answer" tk4, .str "done" tk5, .str "program" tk6, .str "mix" tk7, .str "round" tk8, .str "out" tk9, .str "exp" tk10, .str "log" tk11, .str "sin" tk12, .str "cos" tk13, .str "tan" tk14, .str "atan" tk15, .str "at" tk16, .str "as" tk17, .str "with" tk18, .str "beside" tk19] nK, slK⟩)
  (aC_ : nsIn K mainGlobals "CALL_NAMES" = some (some (.ref aC)))
  (cL : K.lookup aC = some ⟨.type "tuple", odC, .seq #[.str "exp" tc0, .str "log" tc1, .str "sin" tc2, .str "cos" tc3, .str "tan" tc4, .str "atan" tc5] nC, slC⟩)
  (q_LETTERS : nsIn K mainGlobals "LETTERS" = some (some (.str "abcdefghijklmnopqrstuvwxyz" tg_LETTERS)))
  (q_NAME_SIGNS : nsIn K mainGlobals "NAME_SIGNS" = some (some (.str "abcdefghijklmnopqrstuvwxyz0123456789" tg_NAME_SIGNS)))
  (q_SIGNS : nsIn K mainGlobals "SIGNS" = some (some (.str "+-*/^()" tg_SIGNS)))
  (q_NEGATIVE : nsIn K mainGlobals "NEGATIVE" = some (some (.str "~" tg_NEGATIVE)))
  (q_NAME_LENGTH : nsIn K mainGlobals "NAME_LENGTH" = some (some (.int 8 tg_NAME_LENGTH)))
  (q_ATOM : nsIn K mainGlobals "ATOM" = some (some (.int 3 tg_ATOM)))
  (q_POWER : nsIn K mainGlobals "POWER" = some (some (.int 2 tg_POWER)))
  (q_PRODUCT : nsIn K mainGlobals "PRODUCT" = some (some (.int 1 tg_PRODUCT)))
  (q_SUM : nsIn K mainGlobals "SUM" = some (some (.int 0 tg_SUM)))
  (q_TEXT : nsIn K mainGlobals "TEXT" = some (some (.int 20000 tg_TEXT)))
  (q_DIGITS : nsIn K mainGlobals "DIGITS" = some (some (.int 40 tg_DIGITS)))
  (q_DEPTH : nsIn K mainGlobals "DEPTH" = some (some (.int 20 tg_DEPTH)))
  (q_SIZE : nsIn K mainGlobals "SIZE" = some (some (.int 120 tg_SIZE)))
  (aR_ : nsIn K mainGlobals "RANKS" = some (some (.ref aR)))
  (lR_ : K.lookup aR = some ⟨.type "dict", none, .dict eR mR, #[]⟩)
  (uR_ : KeysLit w.params eR.toList)
  (sR_ : (aR == sysModules) = false)
  (hR0 : nsIn K aR "+" = some (some (.int 1 thR0)))
  (hR1 : nsIn K aR "-" = some (some (.int 1 thR1)))
  (hR2 : nsIn K aR "~" = some (some (.int 1 thR2)))
  (hR3 : nsIn K aR "*" = some (some (.int 2 thR3)))
  (hR4 : nsIn K aR "/" = some (some (.int 2 thR4)))
  (aN_ : nsIn K mainGlobals "NODES" = some (some (.ref aN)))
  (lN_ : K.lookup aN = some ⟨.type "dict", none, .dict eN mN, #[]⟩)
  (uN_ : KeysLit w.params eN.toList)
  (sN_ : (aN == sysModules) = false)
  (hN0 : nsIn K aN "+" = some (some (.str "add" thN0)))
  (hN1 : nsIn K aN "-" = some (some (.str "sub" thN1)))
  (hN2 : nsIn K aN "*" = some (some (.str "mul" thN2)))
  (hN3 : nsIn K aN "/" = some (some (.str "div" thN3)))
  (aM_ : nsIn K mainGlobals "MARKS" = some (some (.ref aM)))
  (lM_ : K.lookup aM = some ⟨.type "dict", none, .dict eM mM, #[]⟩)
  (uM_ : KeysLit w.params eM.toList)
  (sM_ : (aM == sysModules) = false)
  (hM0 : nsIn K aM "add" = some (some (.str " + " thM0)))
  (hM1 : nsIn K aM "sub" = some (some (.str " - " thM1)))
  (hM2 : nsIn K aM "mul" = some (some (.str "*" thM2)))
  (hM3 : nsIn K aM "div" = some (some (.str "/" thM3)))
  (mR0 : nsIn K aR "(" = some none)
  (mR1 : nsIn K aR "exp" = some none)
  (mR2 : nsIn K aR "log" = some none)
  (mR3 : nsIn K aR "sin" = some none)
  (mR4 : nsIn K aR "cos" = some none)
  (mR5 : nsIn K aR "tan" = some none)
  (mR6 : nsIn K aR "atan" = some none)
  (pA : findIn K (.ref cF) "text" = some (some (.ref aP)))
  (pG : specialIn K (.ref aP) "__get__" = some (some (.builtin "property.__get__")))
  (pT : takesIn K (.ref aP) = some true)
  (pR : recIn K aP "property" = some (.ref f32 :: restP))
  (z_isinstance : nsIn K mainGlobals "isinstance" = some none)
  (z_int : nsIn K mainGlobals "int" = some none)
  (z_bool : nsIn K mainGlobals "bool" = some none)
  (z_str : nsIn K mainGlobals "str" = some none)
  (z_list : nsIn K mainGlobals "list" = some none)
  (z_tuple : nsIn K mainGlobals "tuple" = some none)
  (z_dict : nsIn K mainGlobals "dict" = some none)
  (z_len : nsIn K mainGlobals "len" = some none)
  (z_range : nsIn K mainGlobals "range" = some none)
  (z_all : nsIn K mainGlobals "all" = some none)
  (z_max : nsIn K mainGlobals "max" = some none)
  (z_repr : nsIn K mainGlobals "repr" = some none)
  (z_ValueError : nsIn K mainGlobals "ValueError" = some none)
  (z_LookupError : nsIn K mainGlobals "LookupError" = some none)
  (a0 : findIn K (.ref cB) "__init__" = some (some (.ref f0)))
  (t0 : typeIn K (.ref f0) = some (.type "function"))
  (l0 : K.lookup f0 = some ⟨oc0, od0, .func (fnOf "__init__" "BadFormula.__init__" (L2.defArgs s_BadFormula_init) (L2.defBody s_BadFormula_init) (L2.defScope s_BadFormula_init) .none kV0 dc0 pm0 an0 cd0 ct0), sl0⟩)
  (c0 : codeIn K cd0 "BadFormula.__init__" = true)
  (k0 : keepIn K (.ref f0) = true)
  (a1 : findIn K (.ref cS) "__init__" = some (some (.ref f1)))
  (t1 : typeIn K (.ref f1) = some (.type "function"))
  (l1 : K.lookup f1 = some ⟨oc1, od1, .func (fnOf "__init__" "NoSuch.__init__" (L2.defArgs s_NoSuch_init) (L2.defBody s_NoSuch_init) (L2.defScope s_NoSuch_init) .none kV1 dc1 pm1 an1 cd1 ct1), sl1⟩)
  (c1 : codeIn K cd1 "NoSuch.__init__" = true)
  (k1 : keepIn K (.ref f1) = true)
  (a2 : nsIn K mainGlobals "is_digits" = some (some (.ref f2)))
  (l2 : K.lookup f2 = some ⟨oc2, od2, .func (fnOf "is_digits" "is_digits" (L2.defArgs s_is_digits) (L2.defBody s_is_digits) (L2.defScope s_is_digits) .none kV2 dc2 pm2 an2 cd2 ct2), sl2⟩)
  (c2 : codeIn K cd2 "is_digits" = true)
  (k2 : keepIn K (.ref f2) = true)
  (a3 : nsIn K mainGlobals "is_name" = some (some (.ref f3)))
  (l3 : K.lookup f3 = some ⟨oc3, od3, .func (fnOf "is_name" "is_name" (L2.defArgs s_is_name) (L2.defBody s_is_name) (L2.defScope s_is_name) .none kV3 dc3 pm3 an3 cd3 ct3), sl3⟩)
  (c3 : codeIn K cd3 "is_name" = true)
  (k3 : keepIn K (.ref f3) = true)
  (a4 : nsIn K mainGlobals "split_words" = some (some (.ref f4)))
  (l4 : K.lookup f4 = some ⟨oc4, od4, .func (fnOf "split_words" "split_words" (L2.defArgs s_split_words) (L2.defBody s_split_words) (L2.defScope s_split_words) .none kV4 dc4 pm4 an4 cd4 ct4), sl4⟩)
  (c4 : codeIn K cd4 "split_words" = true)
  (k4 : keepIn K (.ref f4) = true)
  (a5 : findIn K (.ref cT) "__init__" = some (some (.ref f5)))
  (t5 : isFn K (.ref f5) = true)
  (l5 : K.lookup f5 = some ⟨oc5, od5, .func (fnOf "__init__" "TreeReader.__init__" (L2.defArgs s_TreeReader_init) (L2.defBody s_TreeReader_init) (L2.defScope s_TreeReader_init) .none kV5 dc5 pm5 an5 cd5 ct5), sl5⟩)
  (c5 : codeIn K cd5 "TreeReader.__init__" = true)
  (k5 : keepIn K (.ref f5) = true)
  (a6 : findIn K (.ref cT) "whole_tree" = some (some (.ref f6)))
  (t6 : isFn K (.ref f6) = true)
  (l6 : K.lookup f6 = some ⟨oc6, od6, .func (fnOf "whole_tree" "TreeReader.whole_tree" (L2.defArgs s_TreeReader_whole_tree) (L2.defBody s_TreeReader_whole_tree) (L2.defScope s_TreeReader_whole_tree) .none kV6 dc6 pm6 an6 cd6 ct6), sl6⟩)
  (c6 : codeIn K cd6 "TreeReader.whole_tree" = true)
  (k6 : keepIn K (.ref f6) = true)
  (a7 : findIn K (.ref cT) "_take" = some (some (.ref f7)))
  (t7 : isFn K (.ref f7) = true)
  (l7 : K.lookup f7 = some ⟨oc7, od7, .func (fnOf "_take" "TreeReader._take" (L2.defArgs s_TreeReader__take) (L2.defBody s_TreeReader__take) (L2.defScope s_TreeReader__take) .none kV7 dc7 pm7 an7 cd7 ct7), sl7⟩)
  (c7 : codeIn K cd7 "TreeReader._take" = true)
  (k7 : keepIn K (.ref f7) = true)
  (a8 : findIn K (.ref cT) "_next_word" = some (some (.ref f8)))
  (t8 : isFn K (.ref f8) = true)
  (l8 : K.lookup f8 = some ⟨oc8, od8, .func (fnOf "_next_word" "TreeReader._next_word" (L2.defArgs s_TreeReader__next_word) (L2.defBody s_TreeReader__next_word) (L2.defScope s_TreeReader__next_word) .none kV8 dc8 pm8 an8 cd8 ct8), sl8⟩)
  (c8 : codeIn K cd8 "TreeReader._next_word" = true)
  (k8 : keepIn K (.ref f8) = true)
  (a9 : findIn K (.ref cT) "_open" = some (some (.ref f9)))
  (t9 : isFn K (.ref f9) = true)
  (l9 : K.lookup f9 = some ⟨oc9, od9, .func (fnOf "_open" "TreeReader._open" (L2.defArgs s_TreeReader__open) (L2.defBody s_TreeReader__open) (L2.defScope s_TreeReader__open) .none kV9 dc9 pm9 an9 cd9 ct9), sl9⟩)
  (c9 : codeIn K cd9 "TreeReader._open" = true)
  (k9 : keepIn K (.ref f9) = true)
  (a10 : findIn K (.ref cT) "_close" = some (some (.ref f10)))
  (t10 : isFn K (.ref f10) = true)
  (l10 : K.lookup f10 = some ⟨oc10, od10, .func (fnOf "_close" "TreeReader._close" (L2.defArgs s_TreeReader__close) (L2.defBody s_TreeReader__close) (L2.defScope s_TreeReader__close) .none kV10 dc10 pm10 an10 cd10 ct10), sl10⟩)
  (c10 : codeIn K cd10 "TreeReader._close" = true)
  (k10 : keepIn K (.ref f10) = true)
  (a11 : findIn K (.ref cT) "_raise_to" = some (some (.ref f11)))
  (t11 : isFn K (.ref f11) = true)
  (l11 : K.lookup f11 = some ⟨oc11, od11, .func (fnOf "_raise_to" "TreeReader._raise_to" (L2.defArgs s_TreeReader__raise_to) (L2.defBody s_TreeReader__raise_to) (L2.defScope s_TreeReader__raise_to) .none kV11 dc11 pm11 an11 cd11 ct11), sl11⟩)
  (c11 : codeIn K cd11 "TreeReader._raise_to" = true)
  (k11 : keepIn K (.ref f11) = true)
  (a12 : findIn K (.ref cT) "_take_sign" = some (some (.ref f12)))
  (t12 : isFn K (.ref f12) = true)
  (l12 : K.lookup f12 = some ⟨oc12, od12, .func (fnOf "_take_sign" "TreeReader._take_sign" (L2.defArgs s_TreeReader__take_sign) (L2.defBody s_TreeReader__take_sign) (L2.defScope s_TreeReader__take_sign) .none kV12 dc12 pm12 an12 cd12 ct12), sl12⟩)
  (c12 : codeIn K cd12 "TreeReader._take_sign" = true)
  (k12 : keepIn K (.ref f12) = true)
  (a13 : findIn K (.ref cT) "_take_atom" = some (some (.ref f13)))
  (t13 : isFn K (.ref f13) = true)
  (l13 : K.lookup f13 = some ⟨oc13, od13, .func (fnOf "_take_atom" "TreeReader._take_atom" (L2.defArgs s_TreeReader__take_atom) (L2.defBody s_TreeReader__take_atom) (L2.defScope s_TreeReader__take_atom) .none kV13 dc13 pm13 an13 cd13 ct13), sl13⟩)
  (c13 : codeIn K cd13 "TreeReader._take_atom" = true)
  (k13 : keepIn K (.ref f13) = true)
  (a14 : findIn K (.ref cT) "_settle" = some (some (.ref f14)))
  (t14 : isFn K (.ref f14) = true)
  (l14 : K.lookup f14 = some ⟨oc14, od14, .func (fnOf "_settle" "TreeReader._settle" (L2.defArgs s_TreeReader__settle) (L2.defBody s_TreeReader__settle) (L2.defScope s_TreeReader__settle) .none kV14 dc14 pm14 an14 cd14 ct14), sl14⟩)
  (c14 : codeIn K cd14 "TreeReader._settle" = true)
  (k14 : keepIn K (.ref f14) = true)
  (a15 : nsIn K mainGlobals "read_tree" = some (some (.ref f15)))
  (l15 : K.lookup f15 = some ⟨oc15, od15, .func (fnOf "read_tree" "read_tree" (L2.defArgs s_read_tree) (L2.defBody s_read_tree) (L2.defScope s_read_tree) .none kV15 dc15 pm15 an15 cd15 ct15), sl15⟩)
  (c15 : codeIn K cd15 "read_tree" = true)
  (k15 : keepIn K (.ref f15) = true)
  (a16 : nsIn K mainGlobals "nodes_of" = some (some (.ref f16)))
  (l16 : K.lookup f16 = some ⟨oc16, od16, .func (fnOf "nodes_of" "nodes_of" (L2.defArgs s_nodes_of) (L2.defBody s_nodes_of) (L2.defScope s_nodes_of) .none kV16 dc16 pm16 an16 cd16 ct16), sl16⟩)
  (c16 : codeIn K cd16 "nodes_of" = true)
  (k16 : keepIn K (.ref f16) = true)
  (a17 : nsIn K mainGlobals "postfix" = some (some (.ref f17)))
  (l17 : K.lookup f17 = some ⟨oc17, od17, .func (fnOf "postfix" "postfix" (L2.defArgs s_postfix) (L2.defBody s_postfix) (L2.defScope s_postfix) .none kV17 dc17 pm17 an17 cd17 ct17), sl17⟩)
  (c17 : codeIn K cd17 "postfix" = true)
  (k17 : keepIn K (.ref f17) = true)
  (a18 : nsIn K mainGlobals "built" = some (some (.ref f18)))
  (l18 : K.lookup f18 = some ⟨oc18, od18, .func (fnOf "built" "built" (L2.defArgs s_built) (L2.defBody s_built) (L2.defScope s_built) .none kV18 dc18 pm18 an18 cd18 ct18), sl18⟩)
  (c18 : codeIn K cd18 "built" = true)
  (k18 : keepIn K (.ref f18) = true)
  (a19 : nsIn K mainGlobals "replaced" = some (some (.ref f19)))
  (l19 : K.lookup f19 = some ⟨oc19, od19, .func (fnOf "replaced" "replaced" (L2.defArgs s_replaced) (L2.defBody s_replaced) (L2.defScope s_replaced) .none kV19 dc19 pm19 an19 cd19 ct19), sl19⟩)
  (c19 : codeIn K cd19 "replaced" = true)
  (k19 : keepIn K (.ref f19) = true)
  (a20 : nsIn K mainGlobals "bracketed" = some (some (.ref f20)))
  (l20 : K.lookup f20 = some ⟨oc20, od20, .func (fnOf "bracketed" "bracketed" (L2.defArgs s_bracketed) (L2.defBody s_bracketed) (L2.defScope s_bracketed) .none kV20 dc20 pm20 an20 cd20 ct20), sl20⟩)
  (c20 : codeIn K cd20 "bracketed" = true)
  (k20 : keepIn K (.ref f20) = true)
  (a21 : nsIn K mainGlobals "write_tree" = some (some (.ref f21)))
  (l21 : K.lookup f21 = some ⟨oc21, od21, .func (fnOf "write_tree" "write_tree" (L2.defArgs s_write_tree) (L2.defBody s_write_tree) (L2.defScope s_write_tree) .none kV21 dc21 pm21 an21 cd21 ct21), sl21⟩)
  (c21 : codeIn K cd21 "write_tree" = true)
  (k21 : keepIn K (.ref f21) = true)
  (a22 : nsIn K mainGlobals "put_in" = some (some (.ref f22)))
  (l22 : K.lookup f22 = some ⟨oc22, od22, .func (fnOf "put_in" "put_in" (L2.defArgs s_put_in) (L2.defBody s_put_in) (L2.defScope s_put_in) .none kV22 dc22 pm22 an22 cd22 ct22), sl22⟩)
  (c22 : codeIn K cd22 "put_in" = true)
  (k22 : keepIn K (.ref f22) = true)
  (a23 : nsIn K mainGlobals "degree_of" = some (some (.ref f23)))
  (l23 : K.lookup f23 = some ⟨oc23, od23, .func (fnOf "degree_of" "degree_of" (L2.defArgs s_degree_of) (L2.defBody s_degree_of) (L2.defScope s_degree_of) .none kV23 dc23 pm23 an23 cd23 ct23), sl23⟩)
  (c23 : codeIn K cd23 "degree_of" = true)
  (k23 : keepIn K (.ref f23) = true)
  (a24 : nsIn K mainGlobals "tree_degree" = some (some (.ref f24)))
  (l24 : K.lookup f24 = some ⟨oc24, od24, .func (fnOf "tree_degree" "tree_degree" (L2.defArgs s_tree_degree) (L2.defBody s_tree_degree) (L2.defScope s_tree_degree) .none kV24 dc24 pm24 an24 cd24 ct24), sl24⟩)
  (c24 : codeIn K cd24 "tree_degree" = true)
  (k24 : keepIn K (.ref f24) = true)
  (a25 : nsIn K mainGlobals "formula_of" = some (some (.ref f25)))
  (l25 : K.lookup f25 = some ⟨oc25, od25, .func (fnOf "formula_of" "formula_of" (L2.defArgs s_formula_of) (L2.defBody s_formula_of) (L2.defScope s_formula_of) .none kV25 dc25 pm25 an25 cd25 ct25), sl25⟩)
  (c25 : codeIn K cd25 "formula_of" = true)
  (k25 : keepIn K (.ref f25) = true)
  (a26 : nsIn K mainGlobals "tree_digits" = some (some (.ref f26)))
  (l26 : K.lookup f26 = some ⟨oc26, od26, .func (fnOf "tree_digits" "tree_digits" (L2.defArgs s_tree_digits) (L2.defBody s_tree_digits) (L2.defScope s_tree_digits) .none kV26 dc26 pm26 an26 cd26 ct26), sl26⟩)
  (c26 : codeIn K cd26 "tree_digits" = true)
  (k26 : keepIn K (.ref f26) = true)
  (a27 : nsIn K mainGlobals "tree_size" = some (some (.ref f27)))
  (l27 : K.lookup f27 = some ⟨oc27, od27, .func (fnOf "tree_size" "tree_size" (L2.defArgs s_tree_size) (L2.defBody s_tree_size) (L2.defScope s_tree_size) .none kV27 dc27 pm27 an27 cd27 ct27), sl27⟩)
  (c27 : codeIn K cd27 "tree_size" = true)
  (k27 : keepIn K (.ref f27) = true)
  (a28 : nsIn K mainGlobals "text_depth" = some (some (.ref f28)))
  (l28 : K.lookup f28 = some ⟨oc28, od28, .func (fnOf "text_depth" "text_depth" (L2.defArgs s_text_depth) (L2.defBody s_text_depth) (L2.defScope s_text_depth) .none kV28 dc28 pm28 an28 cd28 ct28), sl28⟩)
  (c28 : codeIn K cd28 "text_depth" = true)
  (k28 : keepIn K (.ref f28) = true)
  (a29 : nsIn K mainGlobals "met_names" = some (some (.ref f29)))
  (l29 : K.lookup f29 = some ⟨oc29, od29, .func (fnOf "met_names" "met_names" (L2.defArgs s_met_names) (L2.defBody s_met_names) (L2.defScope s_met_names) .none kV29 dc29 pm29 an29 cd29 ct29), sl29⟩)
  (c29 : codeIn K cd29 "met_names" = true)
  (k29 : keepIn K (.ref f29) = true)
  (a30 : nsIn K mainGlobals "call_nodes" = some (some (.ref f30)))
  (l30 : K.lookup f30 = some ⟨oc30, od30, .func (fnOf "call_nodes" "call_nodes" (L2.defArgs s_call_nodes) (L2.defBody s_call_nodes) (L2.defScope s_call_nodes) .none kV30 dc30 pm30 an30 cd30 ct30), sl30⟩)
  (c30 : codeIn K cd30 "call_nodes" = true)
  (k30 : keepIn K (.ref f30) = true)
  (a31 : findIn K (.ref cF) "__init__" = some (some (.ref f31)))
  (t31 : isFn K (.ref f31) = true)
  (l31 : K.lookup f31 = some ⟨oc31, od31, .func (fnOf "__init__" "Formula.__init__" (L2.defArgs s_Formula_init) (L2.defBody s_Formula_init) (L2.defScope s_Formula_init) .none (.ref DD) dc31 pm31 an31 cd31 ct31), sl31⟩)
  (dF : nsIn K DD "tree" = some (some .none))
  (c31 : codeIn K cd31 "Formula.__init__" = true)
  (k31 : keepIn K (.ref f31) = true)
  (l32 : K.lookup f32 = some ⟨oc32, od32, .func (fnOf "text" "Formula.text" (L2.defArgs s_Formula_text) (L2.defBody s_Formula_text) (L2.defScope s_Formula_text) .none kV32 dc32 pm32 an32 cd32 ct32), sl32⟩)
  (c32 : codeIn K cd32 "Formula.text" = true)
  (k32 : keepIn K (.ref f32) = true)
  (a33 : findIn K (.ref cF) "calls" = some (some (.ref f33)))
  (t33 : isFn K (.ref f33) = true)
  (l33 : K.lookup f33 = some ⟨oc33, od33, .func (fnOf "calls" "Formula.calls" (L2.defArgs s_Formula_calls) (L2.defBody s_Formula_calls) (L2.defScope s_Formula_calls) .none kV33 dc33 pm33 an33 cd33 ct33), sl33⟩)
  (c33 : codeIn K cd33 "Formula.calls" = true)
  (k33 : keepIn K (.ref f33) = true)
  (a34 : findIn K (.ref cF) "__eq__" = some (some (.ref f34)))
  (t34 : isFn K (.ref f34) = true)
  (l34 : K.lookup f34 = some ⟨oc34, od34, .func (fnOf "__eq__" "Formula.__eq__" (L2.defArgs s_Formula_eq) (L2.defBody s_Formula_eq) (L2.defScope s_Formula_eq) .none kV34 dc34 pm34 an34 cd34 ct34), sl34⟩)
  (c34 : codeIn K cd34 "Formula.__eq__" = true)
  (k34 : keepIn K (.ref f34) = true)
  (a35 : findIn K (.ref cF) "__repr__" = some (some (.ref f35)))
  (t35 : isFn K (.ref f35) = true)
  (l35 : K.lookup f35 = some ⟨oc35, od35, .func (fnOf "__repr__" "Formula.__repr__" (L2.defArgs s_Formula_repr) (L2.defBody s_Formula_repr) (L2.defScope s_Formula_repr) .none kV35 dc35 pm35 an35 cd35 ct35), sl35⟩)
  (c35 : codeIn K cd35 "Formula.__repr__" = true)
  (k35 : keepIn K (.ref f35) = true)
  (a36 : nsIn K mainGlobals "_formula_tree" = some (some (.ref f36)))
  (l36 : K.lookup f36 = some ⟨oc36, od36, .func (fnOf "_formula_tree" "_formula_tree" (L2.defArgs s__formula_tree) (L2.defBody s__formula_tree) (L2.defScope s__formula_tree) .none kV36 dc36 pm36 an36 cd36 ct36), sl36⟩)
  (c36 : codeIn K cd36 "_formula_tree" = true)
  (k36 : keepIn K (.ref f36) = true)
  (a37 : nsIn K mainGlobals "_check_bounds" = some (some (.ref f37)))
  (l37 : K.lookup f37 = some ⟨oc37, od37, .func (fnOf "_check_bounds" "_check_bounds" (L2.defArgs s__check_bounds) (L2.defBody s__check_bounds) (L2.defScope s__check_bounds) .none kV37 dc37 pm37 an37 cd37 ct37), sl37⟩)
  (c37 : codeIn K cd37 "_check_bounds" = true)
  (k37 : keepIn K (.ref f37) = true)
  (a38 : nsIn K mainGlobals "_law_jar" = some (some (.ref f38)))
  (l38 : K.lookup f38 = some ⟨oc38, od38, .func (fnOf "_law_jar" "_law_jar" (L2.defArgs s__law_jar) (L2.defBody s__law_jar) (L2.defScope s__law_jar) .none kV38 dc38 pm38 an38 cd38 ct38), sl38⟩)
  (c38 : codeIn K cd38 "_law_jar" = true)
  (k38 : keepIn K (.ref f38) = true)
  (a39 : nsIn K mainGlobals "_law_draw" = some (some (.ref f39)))
  (l39 : K.lookup f39 = some ⟨oc39, od39, .func (fnOf "_law_draw" "_law_draw" (L2.defArgs s__law_draw) (L2.defBody s__law_draw) (L2.defScope s__law_draw) .none kV39 dc39 pm39 an39 cd39 ct39), sl39⟩)
  (c39 : codeIn K cd39 "_law_draw" = true)
  (k39 : keepIn K (.ref f39) = true)
  (a40 : nsIn K mainGlobals "_law_pick" = some (some (.ref f40)))
  (l40 : K.lookup f40 = some ⟨oc40, od40, .func (fnOf "_law_pick" "_law_pick" (L2.defArgs s__law_pick) (L2.defBody s__law_pick) (L2.defScope s__law_pick) .none kV40 dc40 pm40 an40 cd40 ct40), sl40⟩)
  (c40 : codeIn K cd40 "_law_pick" = true)
  (k40 : keepIn K (.ref f40) = true)
  (a41 : nsIn K mainGlobals "_law_whole" = some (some (.ref f41)))
  (l41 : K.lookup f41 = some ⟨oc41, od41, .func (fnOf "_law_whole" "_law_whole" (L2.defArgs s__law_whole) (L2.defBody s__law_whole) (L2.defScope s__law_whole) .none kV41 dc41 pm41 an41 cd41 ct41), sl41⟩)
  (c41 : codeIn K cd41 "_law_whole" = true)
  (k41 : keepIn K (.ref f41) = true)
  (a42 : nsIn K mainGlobals "_law_like" = some (some (.ref f42)))
  (l42 : K.lookup f42 = some ⟨oc42, od42, .func (fnOf "_law_like" "_law_like" (L2.defArgs s__law_like) (L2.defBody s__law_like) (L2.defScope s__law_like) .none kV42 dc42 pm42 an42 cd42 ct42), sl42⟩)
  (c42 : codeIn K cd42 "_law_like" = true)
  (k42 : keepIn K (.ref f42) = true)
  (a43 : nsIn K mainGlobals "_law_is_call" = some (some (.ref f43)))
  (l43 : K.lookup f43 = some ⟨oc43, od43, .func (fnOf "_law_is_call" "_law_is_call" (L2.defArgs s__law_is_call) (L2.defBody s__law_is_call) (L2.defScope s__law_is_call) .none kV43 dc43 pm43 an43 cd43 ct43), sl43⟩)
  (c43 : codeIn K cd43 "_law_is_call" = true)
  (k43 : keepIn K (.ref f43) = true)
  (a44 : nsIn K mainGlobals "_law_held" = some (some (.ref f44)))
  (l44 : K.lookup f44 = some ⟨oc44, od44, .func (fnOf "_law_held" "_law_held" (L2.defArgs s__law_held) (L2.defBody s__law_held) (L2.defScope s__law_held) .none kV44 dc44 pm44 an44 cd44 ct44), sl44⟩)
  (c44 : codeIn K cd44 "_law_held" = true)
  (k44 : keepIn K (.ref f44) = true)
  (a45 : nsIn K mainGlobals "_law_text" = some (some (.ref f45)))
  (l45 : K.lookup f45 = some ⟨oc45, od45, .func (fnOf "_law_text" "_law_text" (L2.defArgs s__law_text) (L2.defBody s__law_text) (L2.defScope s__law_text) .none kV45 dc45 pm45 an45 cd45 ct45), sl45⟩)
  (c45 : codeIn K cd45 "_law_text" = true)
  (k45 : keepIn K (.ref f45) = true)
  (a46 : nsIn K mainGlobals "_law_tokens" = some (some (.ref f46)))
  (l46 : K.lookup f46 = some ⟨oc46, od46, .func (fnOf "_law_tokens" "_law_tokens" (L2.defArgs s__law_tokens) (L2.defBody s__law_tokens) (L2.defScope s__law_tokens) .none kV46 dc46 pm46 an46 cd46 ct46), sl46⟩)
  (c46 : codeIn K cd46 "_law_tokens" = true)
  (k46 : keepIn K (.ref f46) = true)
  (a47 : nsIn K mainGlobals "_law_is_name" = some (some (.ref f47)))
  (l47 : K.lookup f47 = some ⟨oc47, od47, .func (fnOf "_law_is_name" "_law_is_name" (L2.defArgs s__law_is_name) (L2.defBody s__law_is_name) (L2.defScope s__law_is_name) .none kV47 dc47 pm47 an47 cd47 ct47), sl47⟩)
  (c47 : codeIn K cd47 "_law_is_name" = true)
  (k47 : keepIn K (.ref f47) = true)
  (a48 : nsIn K mainGlobals "_law_figures" = some (some (.ref f48)))
  (l48 : K.lookup f48 = some ⟨oc48, od48, .func (fnOf "_law_figures" "_law_figures" (L2.defArgs s__law_figures) (L2.defBody s__law_figures) (L2.defScope s__law_figures) .none kV48 dc48 pm48 an48 cd48 ct48), sl48⟩)
  (c48 : codeIn K cd48 "_law_figures" = true)
  (k48 : keepIn K (.ref f48) = true)
  (a49 : nsIn K mainGlobals "_law_parse_sum" = some (some (.ref f49)))
  (l49 : K.lookup f49 = some ⟨oc49, od49, .func (fnOf "_law_parse_sum" "_law_parse_sum" (L2.defArgs s__law_parse_sum) (L2.defBody s__law_parse_sum) (L2.defScope s__law_parse_sum) .none kV49 dc49 pm49 an49 cd49 ct49), sl49⟩)
  (c49 : codeIn K cd49 "_law_parse_sum" = true)
  (k49 : keepIn K (.ref f49) = true)
  (a50 : nsIn K mainGlobals "_law_parse_product" = some (some (.ref f50)))
  (l50 : K.lookup f50 = some ⟨oc50, od50, .func (fnOf "_law_parse_product" "_law_parse_product" (L2.defArgs s__law_parse_product) (L2.defBody s__law_parse_product) (L2.defScope s__law_parse_product) .none kV50 dc50 pm50 an50 cd50 ct50), sl50⟩)
  (c50 : codeIn K cd50 "_law_parse_product" = true)
  (k50 : keepIn K (.ref f50) = true)
  (a51 : nsIn K mainGlobals "_law_parse_power" = some (some (.ref f51)))
  (l51 : K.lookup f51 = some ⟨oc51, od51, .func (fnOf "_law_parse_power" "_law_parse_power" (L2.defArgs s__law_parse_power) (L2.defBody s__law_parse_power) (L2.defScope s__law_parse_power) .none kV51 dc51 pm51 an51 cd51 ct51), sl51⟩)
  (c51 : codeIn K cd51 "_law_parse_power" = true)
  (k51 : keepIn K (.ref f51) = true)
  (a52 : nsIn K mainGlobals "_law_parse_atom" = some (some (.ref f52)))
  (l52 : K.lookup f52 = some ⟨oc52, od52, .func (fnOf "_law_parse_atom" "_law_parse_atom" (L2.defArgs s__law_parse_atom) (L2.defBody s__law_parse_atom) (L2.defScope s__law_parse_atom) .none kV52 dc52 pm52 an52 cd52 ct52), sl52⟩)
  (c52 : codeIn K cd52 "_law_parse_atom" = true)
  (k52 : keepIn K (.ref f52) = true)
  (a53 : nsIn K mainGlobals "_law_parse" = some (some (.ref f53)))
  (l53 : K.lookup f53 = some ⟨oc53, od53, .func (fnOf "_law_parse" "_law_parse" (L2.defArgs s__law_parse) (L2.defBody s__law_parse) (L2.defScope s__law_parse) .none kV53 dc53 pm53 an53 cd53 ct53), sl53⟩)
  (c53 : codeIn K cd53 "_law_parse" = true)
  (k53 : keepIn K (.ref f53) = true)
  (a54 : nsIn K mainGlobals "_law_names" = some (some (.ref f54)))
  (l54 : K.lookup f54 = some ⟨oc54, od54, .func (fnOf "_law_names" "_law_names" (L2.defArgs s__law_names) (L2.defBody s__law_names) (L2.defScope s__law_names) .none kV54 dc54 pm54 an54 cd54 ct54), sl54⟩)
  (c54 : codeIn K cd54 "_law_names" = true)
  (k54 : keepIn K (.ref f54) = true)
  (a55 : nsIn K mainGlobals "_law_put" = some (some (.ref f55)))
  (l55 : K.lookup f55 = some ⟨oc55, od55, .func (fnOf "_law_put" "_law_put" (L2.defArgs s__law_put) (L2.defBody s__law_put) (L2.defScope s__law_put) .none kV55 dc55 pm55 an55 cd55 ct55), sl55⟩)
  (c55 : codeIn K cd55 "_law_put" = true)
  (k55 : keepIn K (.ref f55) = true)
  (a56 : nsIn K mainGlobals "_law_labels" = some (some (.ref f56)))
  (l56 : K.lookup f56 = some ⟨oc56, od56, .func (fnOf "_law_labels" "_law_labels" (L2.defArgs s__law_labels) (L2.defBody s__law_labels) (L2.defScope s__law_labels) .none kV56 dc56 pm56 an56 cd56 ct56), sl56⟩)
  (c56 : codeIn K cd56 "_law_labels" = true)
  (k56 : keepIn K (.ref f56) = true)
  (a57 : nsIn K mainGlobals "_law_degrees" = some (some (.ref f57)))
  (l57 : K.lookup f57 = some ⟨oc57, od57, .func (fnOf "_law_degrees" "_law_degrees" (L2.defArgs s__law_degrees) (L2.defBody s__law_degrees) (L2.defScope s__law_degrees) .none kV57 dc57 pm57 an57 cd57 ct57), sl57⟩)
  (c57 : codeIn K cd57 "_law_degrees" = true)
  (k57 : keepIn K (.ref f57) = true)
  (a58 : nsIn K mainGlobals "_law_leaf" = some (some (.ref f58)))
  (l58 : K.lookup f58 = some ⟨oc58, od58, .func (fnOf "_law_leaf" "_law_leaf" (L2.defArgs s__law_leaf) (L2.defBody s__law_leaf) (L2.defScope s__law_leaf) .none kV58 dc58 pm58 an58 cd58 ct58), sl58⟩)
  (c58 : codeIn K cd58 "_law_leaf" = true)
  (k58 : keepIn K (.ref f58) = true)
  (a59 : nsIn K mainGlobals "_law_any" = some (some (.ref f59)))
  (l59 : K.lookup f59 = some ⟨oc59, od59, .func (fnOf "_law_any" "_law_any" (L2.defArgs s__law_any) (L2.defBody s__law_any) (L2.defScope s__law_any) .none kV59 dc59 pm59 an59 cd59 ct59), sl59⟩)
  (c59 : codeIn K cd59 "_law_any" = true)
  (k59 : keepIn K (.ref f59) = true)
  (a60 : nsIn K mainGlobals "_law_blank" = some (some (.ref f60)))
  (l60 : K.lookup f60 = some ⟨oc60, od60, .func (fnOf "_law_blank" "_law_blank" (L2.defArgs s__law_blank) (L2.defBody s__law_blank) (L2.defScope s__law_blank) .none kV60 dc60 pm60 an60 cd60 ct60), sl60⟩)
  (c60 : codeIn K cd60 "_law_blank" = true)
  (k60 : keepIn K (.ref f60) = true)
  (a61 : nsIn K mainGlobals "_law_loose" = some (some (.ref f61)))
  (l61 : K.lookup f61 = some ⟨oc61, od61, .func (fnOf "_law_loose" "_law_loose" (L2.defArgs s__law_loose) (L2.defBody s__law_loose) (L2.defScope s__law_loose) .none kV61 dc61 pm61 an61 cd61 ct61), sl61⟩)
  (c61 : codeIn K cd61 "_law_loose" = true)
  (k61 : keepIn K (.ref f61) = true)
  (a62 : nsIn K mainGlobals "_law_once" = some (some (.ref f62)))
  (l62 : K.lookup f62 = some ⟨oc62, od62, .func (fnOf "_law_once" "_law_once" (L2.defArgs s__law_once) (L2.defBody s__law_once) (L2.defScope s__law_once) .none kV62 dc62 pm62 an62 cd62 ct62), sl62⟩)
  (c62 : codeIn K cd62 "_law_once" = true)
  (k62 : keepIn K (.ref f62) = true)
  (a63 : nsIn K mainGlobals "_law_depth" = some (some (.ref f63)))
  (l63 : K.lookup f63 = some ⟨oc63, od63, .func (fnOf "_law_depth" "_law_depth" (L2.defArgs s__law_depth) (L2.defBody s__law_depth) (L2.defScope s__law_depth) .none kV63 dc63 pm63 an63 cd63 ct63), sl63⟩)
  (c63 : codeIn K cd63 "_law_depth" = true)
  (k63 : keepIn K (.ref f63) = true)
  (a64 : nsIn K mainGlobals "_law_calls_due" = some (some (.ref f64)))
  (l64 : K.lookup f64 = some ⟨oc64, od64, .func (fnOf "_law_calls_due" "_law_calls_due" (L2.defArgs s__law_calls_due) (L2.defBody s__law_calls_due) (L2.defScope s__law_calls_due) .none kV64 dc64 pm64 an64 cd64 ct64), sl64⟩)
  (c64 : codeIn K cd64 "_law_calls_due" = true)
  (k64 : keepIn K (.ref f64) = true)
  (a65 : nsIn K mainGlobals "_law_right" = some (some (.ref f65)))
  (l65 : K.lookup f65 = some ⟨oc65, od65, .func (fnOf "_law_right" "_law_right" (L2.defArgs s__law_right) (L2.defBody s__law_right) (L2.defScope s__law_right) .none kV65 dc65 pm65 an65 cd65 ct65), sl65⟩)
  (c65 : codeIn K cd65 "_law_right" = true)
  (k65 : keepIn K (.ref f65) = true)
  (a66 : nsIn K mainGlobals "_law_read" = some (some (.ref f66)))
  (l66 : K.lookup f66 = some ⟨oc66, od66, .func (fnOf "_law_read" "_law_read" (L2.defArgs s__law_read) (L2.defBody s__law_read) (L2.defScope s__law_read) .none kV66 dc66 pm66 an66 cd66 ct66), sl66⟩)
  (c66 : codeIn K cd66 "_law_read" = true)
  (k66 : keepIn K (.ref f66) = true)
  (a67 : nsIn K mainGlobals "_law_degrees_right" = some (some (.ref f67)))
  (l67 : K.lookup f67 = some ⟨oc67, od67, .func (fnOf "_law_degrees_right" "_law_degrees_right" (L2.defArgs s__law_degrees_right) (L2.defBody s__law_degrees_right) (L2.defScope s__law_degrees_right) .none kV67 dc67 pm67 an67 cd67 ct67), sl67⟩)
  (c67 : codeIn K cd67 "_law_degrees_right" = true)
  (k67 : keepIn K (.ref f67) = true)
  (a68 : nsIn K mainGlobals "_law_bent" = some (some (.ref f68)))
  (l68 : K.lookup f68 = some ⟨oc68, od68, .func (fnOf "_law_bent" "_law_bent" (L2.defArgs s__law_bent) (L2.defBody s__law_bent) (L2.defScope s__law_bent) .none kV68 dc68 pm68 an68 cd68 ct68), sl68⟩)
  (c68 : codeIn K cd68 "_law_bent" = true)
  (k68 : keepIn K (.ref f68) = true)
  (a69 : nsIn K mainGlobals "law" = some (some (.ref f69)))
  (l69 : K.lookup f69 = some ⟨oc69, od69, .func (fnOf "law" "law" (L2.defArgs s_law) (L2.defBody s_law) (L2.defScope s_law) .none kV69 dc69 pm69 an69 cd69 ct69), sl69⟩)
  (c69 : codeIn K cd69 "law" = true)
  (k69 : keepIn K (.ref f69) = true)
  : ∃ T : Txt w K mg, T.d_law.a = fa ∧ ∀ (s : Shared) (u : Value), BindsTo s T.d_law.fd ⟨[u], []⟩ [("script", u)] := by
  have e := hfa.symm.trans (mg_of X G a69)
  cases e
  have F0 := L2.fun_mk (st := s_BadFormula_init) l0 c0 k0
  have F1 := L2.fun_mk (st := s_NoSuch_init) l1 c1 k1
  have F2 := L2.fun_mk (st := s_is_digits) l2 c2 k2
  have F3 := L2.fun_mk (st := s_is_name) l3 c3 k3
  have F4 := L2.fun_mk (st := s_split_words) l4 c4 k4
  have F5 := L2.fun_mk (st := s_TreeReader_init) l5 c5 k5
  have F6 := L2.fun_mk (st := s_TreeReader_whole_tree) l6 c6 k6
  have F7 := L2.fun_mk (st := s_TreeReader__take) l7 c7 k7
  have F8 := L2.fun_mk (st := s_TreeReader__next_word) l8 c8 k8
  have F9 := L2.fun_mk (st := s_TreeReader__open) l9 c9 k9
  have F10 := L2.fun_mk (st := s_TreeReader__close) l10 c10 k10
  have F11 := L2.fun_mk (st := s_TreeReader__raise_to) l11 c11 k11
  have F12 := L2.fun_mk (st := s_TreeReader__take_sign) l12 c12 k12
  have F13 := L2.fun_mk (st := s_TreeReader__take_atom) l13 c13 k13
  have F14 := L2.fun_mk (st := s_TreeReader__settle) l14 c14 k14
  have F15 := L2.fun_mk (st := s_read_tree) l15 c15 k15
  have F16 := L2.fun_mk (st := s_nodes_of) l16 c16 k16
  have F17 := L2.fun_mk (st := s_postfix) l17 c17 k17
  have F18 := L2.fun_mk (st := s_built) l18 c18 k18
  have F19 := L2.fun_mk (st := s_replaced) l19 c19 k19
  have F20 := L2.fun_mk (st := s_bracketed) l20 c20 k20
  have F21 := L2.fun_mk (st := s_write_tree) l21 c21 k21
  have F22 := L2.fun_mk (st := s_put_in) l22 c22 k22
  have F23 := L2.fun_mk (st := s_degree_of) l23 c23 k23
  have F24 := L2.fun_mk (st := s_tree_degree) l24 c24 k24
  have F25 := L2.fun_mk (st := s_formula_of) l25 c25 k25
  have F26 := L2.fun_mk (st := s_tree_digits) l26 c26 k26
  have F27 := L2.fun_mk (st := s_tree_size) l27 c27 k27
  have F28 := L2.fun_mk (st := s_text_depth) l28 c28 k28
  have F29 := L2.fun_mk (st := s_met_names) l29 c29 k29
  have F30 := L2.fun_mk (st := s_call_nodes) l30 c30 k30
  have F31 : FunD K "__init__" "Formula.__init__" (L2.defArgs s_Formula_init) (L2.defBody s_Formula_init) (L2.defScope s_Formula_init) [] [("tree", .non)] f31 _ := ⟨⟨oc31, od31, .none, .ref DD, dc31, pm31, an31, cd31, ct31, sl31, rfl, l31, c31, .inl ⟨rfl, rfl⟩, .inr ⟨DD, rfl, fun q hq => by cases List.mem_singleton.mp hq; exact ⟨_, dF, rfl⟩⟩⟩, k31⟩
  obtain ⟨dsF, hvF, BF⟩ := F31.binds0 (ps := ["self", "text", "tree"]) 2 (by simp) rfl (fun _ _ _ _ _ _ us ks hu hk => match us, ks, hu, hk with | [_, _], [_], _, _ => ⟨_, _, _, _, _, _, rfl, rfl, rfl⟩)
  have hdsF : dsF = [.none] := by cases hvF with | cons a b => cases b; cases a; rfl
  subst hdsF
  obtain ⟨_, KF⟩ := F31.kbinds0 (ps := ["self", "text", "tree"]) 2 ["tree"] [] (fun us _ ws => us ++ ws) (by simp) (fun _ z => nomatch z) (fun h1 _ h3 => h1.append h3) (fun _ _ _ _ _ _ us mv ws hu _ hw => match us, ws, hu, hw with | [_, _], [_], _, _ => rfl)
  have F32 := L2.fun_mk (st := s_Formula_text) l32 c32 k32
  have F33 := L2.fun_mk (st := s_Formula_calls) l33 c33 k33
  have F34 := L2.fun_mk (st := s_Formula_eq) l34 c34 k34
  have F35 := L2.fun_mk (st := s_Formula_repr) l35 c35 k35
  have F36 := L2.fun_mk (st := s__formula_tree) l36 c36 k36
  have F37 := L2.fun_mk (st := s__check_bounds) l37 c37 k37
  have F38 := L2.fun_mk (st := s__law_jar) l38 c38 k38
  have F39 := L2.fun_mk (st := s__law_draw) l39 c39 k39
  have F40 := L2.fun_mk (st := s__law_pick) l40 c40 k40
  have F41 := L2.fun_mk (st := s__law_whole) l41 c41 k41
  have F42 := L2.fun_mk (st := s__law_like) l42 c42 k42
  have F43 := L2.fun_mk (st := s__law_is_call) l43 c43 k43
  have F44 := L2.fun_mk (st := s__law_held) l44 c44 k44
  have F45 := L2.fun_mk (st := s__law_text) l45 c45 k45
  have F46 := L2.fun_mk (st := s__law_tokens) l46 c46 k46
  have F47 := L2.fun_mk (st := s__law_is_name) l47 c47 k47
  have F48 := L2.fun_mk (st := s__law_figures) l48 c48 k48
  have F49 := L2.fun_mk (st := s__law_parse_sum) l49 c49 k49
  have F50 := L2.fun_mk (st := s__law_parse_product) l50 c50 k50
  have F51 := L2.fun_mk (st := s__law_parse_power) l51 c51 k51
  have F52 := L2.fun_mk (st := s__law_parse_atom) l52 c52 k52
  have F53 := L2.fun_mk (st := s__law_parse) l53 c53 k53
  have F54 := L2.fun_mk (st := s__law_names) l54 c54 k54
  have F55 := L2.fun_mk (st := s__law_put) l55 c55 k55
  have F56 := L2.fun_mk (st := s__law_labels) l56 c56 k56
  have F57 := L2.fun_mk (st := s__law_degrees) l57 c57 k57
  have F58 := L2.fun_mk (st := s__law_leaf) l58 c58 k58
  have F59 := L2.fun_mk (st := s__law_any) l59 c59 k59
  have F60 := L2.fun_mk (st := s__law_blank) l60 c60 k60
  have F61 := L2.fun_mk (st := s__law_loose) l61 c61 k61
  have F62 := L2.fun_mk (st := s__law_once) l62 c62 k62
  have F63 := L2.fun_mk (st := s__law_depth) l63 c63 k63
  have F64 := L2.fun_mk (st := s__law_calls_due) l64 c64 k64
  have F65 := L2.fun_mk (st := s__law_right) l65 c65 k65
  have F66 := L2.fun_mk (st := s__law_read) l66 c66 k66
  have F67 := L2.fun_mk (st := s__law_degrees_right) l67 c67 k67
  have F68 := L2.fun_mk (st := s__law_bent) l68 c68 k68
  have F69 := L2.fun_mk (st := s_law) l69 c69 k69
  exact ⟨{
    d_BadFormula_init := ⟨f0, _, F0, F0.binds fun _ _ _ _ _ _ us hl => match us, hl with | [_, _], _ => rfl⟩,
    d_NoSuch_init := ⟨f1, _, F1, F1.binds fun _ _ _ _ _ _ us hl => match us, hl with | [_, _], _ => rfl⟩,
    d_is_digits := ⟨f2, _, F2, F2.binds fun _ _ _ _ _ _ us hl => match us, hl with | [_], _ => rfl⟩,
    g_is_digits := mg_of X G a2,
    d_is_name := ⟨f3, _, F3, F3.binds fun _ _ _ _ _ _ us hl => match us, hl with | [_], _ => rfl⟩,
    g_is_name := mg_of X G a3,
    d_split_words := ⟨f4, _, F4, F4.binds fun _ _ _ _ _ _ us hl => match us, hl with | [_], _ => rfl⟩,
    g_split_words := mg_of X G a4,
    d_TreeReader_init := ⟨f5, _, F5, F5.binds fun _ _ _ _ _ _ us hl => match us, hl with | [_, _], _ => rfl⟩,
    d_TreeReader_whole_tree := ⟨f6, _, F6, F6.binds fun _ _ _ _ _ _ us hl => match us, hl with | [_], _ => rfl⟩,
    m_TreeReader_whole_tree := ⟨a6, t6, k6⟩,
    d_TreeReader__take := ⟨f7, _, F7, F7.binds fun _ _ _ _ _ _ us hl => match us, hl with | [_, _], _ => rfl⟩,
    m_TreeReader__take := ⟨a7, t7, k7⟩,
    d_TreeReader__next_word := ⟨f8, _, F8, F8.binds fun _ _ _ _ _ _ us hl => match us, hl with | [_], _ => rfl⟩,
    m_TreeReader__next_word := ⟨a8, t8, k8⟩,
    d_TreeReader__open := ⟨f9, _, F9, F9.binds fun _ _ _ _ _ _ us hl => match us, hl with | [_, _], _ => rfl⟩,
    m_TreeReader__open := ⟨a9, t9, k9⟩,
    d_TreeReader__close := ⟨f10, _, F10, F10.binds fun _ _ _ _ _ _ us hl => match us, hl with | [_], _ => rfl⟩,
    m_TreeReader__close := ⟨a10, t10, k10⟩,
    d_TreeReader__raise_to := ⟨f11, _, F11, F11.binds fun _ _ _ _ _ _ us hl => match us, hl with | [_], _ => rfl⟩,
    m_TreeReader__raise_to := ⟨a11, t11, k11⟩,
    d_TreeReader__take_sign := ⟨f12, _, F12, F12.binds fun _ _ _ _ _ _ us hl => match us, hl with | [_, _], _ => rfl⟩,
    m_TreeReader__take_sign := ⟨a12, t12, k12⟩,
    d_TreeReader__take_atom := ⟨f13, _, F13, F13.binds fun _ _ _ _ _ _ us hl => match us, hl with | [_, _], _ => rfl⟩,
    m_TreeReader__take_atom := ⟨a13, t13, k13⟩,
    d_TreeReader__settle := ⟨f14, _, F14, F14.binds fun _ _ _ _ _ _ us hl => match us, hl with | [_, _], _ => rfl⟩,
    m_TreeReader__settle := ⟨a14, t14, k14⟩,
    d_read_tree := ⟨f15, _, F15, F15.binds fun _ _ _ _ _ _ us hl => match us, hl with | [_], _ => rfl⟩,
    g_read_tree := mg_of X G a15,
    d_nodes_of := ⟨f16, _, F16, F16.binds fun _ _ _ _ _ _ us hl => match us, hl with | [_], _ => rfl⟩,
    g_nodes_of := mg_of X G a16,
    d_postfix := ⟨f17, _, F17, F17.binds fun _ _ _ _ _ _ us hl => match us, hl with | [_], _ => rfl⟩,
    g_postfix := mg_of X G a17,
    d_built := ⟨f18, _, F18, F18.binds fun _ _ _ _ _ _ us hl => match us, hl with | [_, _], _ => rfl⟩,
    g_built := mg_of X G a18,
    d_replaced := ⟨f19, _, F19, F19.binds fun _ _ _ _ _ _ us hl => match us, hl with | [_, _], _ => rfl⟩,
    g_replaced := mg_of X G a19,
    d_bracketed := ⟨f20, _, F20, F20.binds fun _ _ _ _ _ _ us hl => match us, hl with | [_, _], _ => rfl⟩,
    g_bracketed := mg_of X G a20,
    d_write_tree := ⟨f21, _, F21, F21.binds fun _ _ _ _ _ _ us hl => match us, hl with | [_], _ => rfl⟩,
    g_write_tree := mg_of X G a21,
    d_put_in := ⟨f22, _, F22, F22.binds fun _ _ _ _ _ _ us hl => match us, hl with | [_, _, _], _ => rfl⟩,
    g_put_in := mg_of X G a22,
    d_degree_of := ⟨f23, _, F23, F23.binds fun _ _ _ _ _ _ us hl => match us, hl with | [_, _], _ => rfl⟩,
    g_degree_of := mg_of X G a23,
    d_tree_degree := ⟨f24, _, F24, F24.binds fun _ _ _ _ _ _ us hl => match us, hl with | [_, _], _ => rfl⟩,
    g_tree_degree := mg_of X G a24,
    d_formula_of := ⟨f25, _, F25, F25.binds fun _ _ _ _ _ _ us hl => match us, hl with | [_], _ => rfl⟩,
    g_formula_of := mg_of X G a25,
    d_tree_digits := ⟨f26, _, F26, F26.binds fun _ _ _ _ _ _ us hl => match us, hl with | [_], _ => rfl⟩,
    g_tree_digits := mg_of X G a26,
    d_tree_size := ⟨f27, _, F27, F27.binds fun _ _ _ _ _ _ us hl => match us, hl with | [_], _ => rfl⟩,
    g_tree_size := mg_of X G a27,
    d_text_depth := ⟨f28, _, F28, F28.binds fun _ _ _ _ _ _ us hl => match us, hl with | [_], _ => rfl⟩,
    g_text_depth := mg_of X G a28,
    d_met_names := ⟨f29, _, F29, F29.binds fun _ _ _ _ _ _ us hl => match us, hl with | [_], _ => rfl⟩,
    g_met_names := mg_of X G a29,
    d_call_nodes := ⟨f30, _, F30, F30.binds fun _ _ _ _ _ _ us hl => match us, hl with | [_], _ => rfl⟩,
    g_call_nodes := mg_of X G a30,
    d_Formula_init := ⟨f31, _, F31, BF⟩,
    d_Formula_text := ⟨f32, _, F32, F32.binds fun _ _ _ _ _ _ us hl => match us, hl with | [_], _ => rfl⟩,
    d_Formula_calls := ⟨f33, _, F33, F33.binds fun _ _ _ _ _ _ us hl => match us, hl with | [_], _ => rfl⟩,
    m_Formula_calls := ⟨a33, t33, k33⟩,
    d_Formula_eq := ⟨f34, _, F34, F34.binds fun _ _ _ _ _ _ us hl => match us, hl with | [_, _], _ => rfl⟩,
    d_Formula_repr := ⟨f35, _, F35, F35.binds fun _ _ _ _ _ _ us hl => match us, hl with | [_], _ => rfl⟩,
    d__formula_tree := ⟨f36, _, F36, F36.binds fun _ _ _ _ _ _ us hl => match us, hl with | [_], _ => rfl⟩,
    g__formula_tree := mg_of X G a36,
    d__check_bounds := ⟨f37, _, F37, F37.binds fun _ _ _ _ _ _ us hl => match us, hl with | [_], _ => rfl⟩,
    g__check_bounds := mg_of X G a37,
    d__law_jar := ⟨f38, _, F38, F38.binds fun _ _ _ _ _ _ us hl => match us, hl with | [_], _ => rfl⟩,
    g__law_jar := mg_of X G a38,
    d__law_draw := ⟨f39, _, F39, F39.binds fun _ _ _ _ _ _ us hl => match us, hl with | [_, _], _ => rfl⟩,
    g__law_draw := mg_of X G a39,
    d__law_pick := ⟨f40, _, F40, F40.binds fun _ _ _ _ _ _ us hl => match us, hl with | [_, _], _ => rfl⟩,
    g__law_pick := mg_of X G a40,
    d__law_whole := ⟨f41, _, F41, F41.binds fun _ _ _ _ _ _ us hl => match us, hl with | [_], _ => rfl⟩,
    g__law_whole := mg_of X G a41,
    d__law_like := ⟨f42, _, F42, F42.binds fun _ _ _ _ _ _ us hl => match us, hl with | [_, _], _ => rfl⟩,
    g__law_like := mg_of X G a42,
    d__law_is_call := ⟨f43, _, F43, F43.binds fun _ _ _ _ _ _ us hl => match us, hl with | [_], _ => rfl⟩,
    g__law_is_call := mg_of X G a43,
    d__law_held := ⟨f44, _, F44, F44.binds fun _ _ _ _ _ _ us hl => match us, hl with | [_, _], _ => rfl⟩,
    g__law_held := mg_of X G a44,
    d__law_text := ⟨f45, _, F45, F45.binds fun _ _ _ _ _ _ us hl => match us, hl with | [_], _ => rfl⟩,
    g__law_text := mg_of X G a45,
    d__law_tokens := ⟨f46, _, F46, F46.binds fun _ _ _ _ _ _ us hl => match us, hl with | [_], _ => rfl⟩,
    g__law_tokens := mg_of X G a46,
    d__law_is_name := ⟨f47, _, F47, F47.binds fun _ _ _ _ _ _ us hl => match us, hl with | [_], _ => rfl⟩,
    g__law_is_name := mg_of X G a47,
    d__law_figures := ⟨f48, _, F48, F48.binds fun _ _ _ _ _ _ us hl => match us, hl with | [_], _ => rfl⟩,
    g__law_figures := mg_of X G a48,
    d__law_parse_sum := ⟨f49, _, F49, F49.binds fun _ _ _ _ _ _ us hl => match us, hl with | [_], _ => rfl⟩,
    g__law_parse_sum := mg_of X G a49,
    d__law_parse_product := ⟨f50, _, F50, F50.binds fun _ _ _ _ _ _ us hl => match us, hl with | [_], _ => rfl⟩,
    g__law_parse_product := mg_of X G a50,
    d__law_parse_power := ⟨f51, _, F51, F51.binds fun _ _ _ _ _ _ us hl => match us, hl with | [_], _ => rfl⟩,
    g__law_parse_power := mg_of X G a51,
    d__law_parse_atom := ⟨f52, _, F52, F52.binds fun _ _ _ _ _ _ us hl => match us, hl with | [_], _ => rfl⟩,
    g__law_parse_atom := mg_of X G a52,
    d__law_parse := ⟨f53, _, F53, F53.binds fun _ _ _ _ _ _ us hl => match us, hl with | [_], _ => rfl⟩,
    g__law_parse := mg_of X G a53,
    d__law_names := ⟨f54, _, F54, F54.binds fun _ _ _ _ _ _ us hl => match us, hl with | [_], _ => rfl⟩,
    g__law_names := mg_of X G a54,
    d__law_put := ⟨f55, _, F55, F55.binds fun _ _ _ _ _ _ us hl => match us, hl with | [_, _], _ => rfl⟩,
    g__law_put := mg_of X G a55,
    d__law_labels := ⟨f56, _, F56, F56.binds fun _ _ _ _ _ _ us hl => match us, hl with | [_], _ => rfl⟩,
    g__law_labels := mg_of X G a56,
    d__law_degrees := ⟨f57, _, F57, F57.binds fun _ _ _ _ _ _ us hl => match us, hl with | [_, _], _ => rfl⟩,
    g__law_degrees := mg_of X G a57,
    d__law_leaf := ⟨f58, _, F58, F58.binds fun _ _ _ _ _ _ us hl => match us, hl with | [_, _], _ => rfl⟩,
    g__law_leaf := mg_of X G a58,
    d__law_any := ⟨f59, _, F59, F59.binds fun _ _ _ _ _ _ us hl => match us, hl with | [_, _, _], _ => rfl⟩,
    g__law_any := mg_of X G a59,
    d__law_blank := ⟨f60, _, F60, F60.binds fun _ _ _ _ _ _ us hl => match us, hl with | [_], _ => rfl⟩,
    g__law_blank := mg_of X G a60,
    d__law_loose := ⟨f61, _, F61, F61.binds fun _ _ _ _ _ _ us hl => match us, hl with | [_, _], _ => rfl⟩,
    g__law_loose := mg_of X G a61,
    d__law_once := ⟨f62, _, F62, F62.binds fun _ _ _ _ _ _ us hl => match us, hl with | [_], _ => rfl⟩,
    g__law_once := mg_of X G a62,
    d__law_depth := ⟨f63, _, F63, F63.binds fun _ _ _ _ _ _ us hl => match us, hl with | [_], _ => rfl⟩,
    g__law_depth := mg_of X G a63,
    d__law_calls_due := ⟨f64, _, F64, F64.binds fun _ _ _ _ _ _ us hl => match us, hl with | [_], _ => rfl⟩,
    g__law_calls_due := mg_of X G a64,
    d__law_right := ⟨f65, _, F65, F65.binds fun _ _ _ _ _ _ us hl => match us, hl with | [_, _], _ => rfl⟩,
    g__law_right := mg_of X G a65,
    d__law_read := ⟨f66, _, F66, F66.binds fun _ _ _ _ _ _ us hl => match us, hl with | [_], _ => rfl⟩,
    g__law_read := mg_of X G a66,
    d__law_degrees_right := ⟨f67, _, F67, F67.binds fun _ _ _ _ _ _ us hl => match us, hl with | [_, _, _], _ => rfl⟩,
    g__law_degrees_right := mg_of X G a67,
    d__law_bent := ⟨f68, _, F68, F68.binds fun _ _ _ _ _ _ us hl => match us, hl with | [_, _], _ => rfl⟩,
    g__law_bent := mg_of X G a68,
    d_law := ⟨fa, _, F69, F69.binds fun _ _ _ _ _ _ us hl => match us, hl with | [_], _ => rfl⟩,
    g_law := mg_of X G a69,
    cT := cT,
    g_TreeReader := mg_of X G aCT,
    clT := ⟨c_pgT, c_hdT, c_poT, c_saT⟩,
    mk_TreeReader := ⟨c_mkT, a5, t5, c_kpT⟩,
    cF := cF,
    g_Formula := mg_of X G aCF,
    clF := ⟨c_pgF, c_hdF, c_poF, c_saF⟩,
    mk_Formula := ⟨c_mkF, a31, t31, c_kpF⟩,
    nW := nT__words,
    nA := nT__at,
    nT := nT__trees,
    nS := nT__signs,
    nO := nT__has_operand,
    nP := nT__has_power,
    nTr := nF_tree,
    nTx := nF__text,
    nNm := nF_names,
    nDp := nF_depth,
    nSz := nF_size,
    kb_Formula := KF,
    aP := aP,
    propT := ⟨pA, pG, pT, ⟨_, pR⟩⟩,
    eqF := a34,
    eqFn := t34,
    repF := a35,
    reprFn := t35,
    haF := c_ha,
    hnF := c_hn,
    htF := c_ht,
    hmF := c_hm,
    kFF := kit_own,
    kb_put_in := ⟨fun s us ws _ hl => by
      obtain ⟨h1, h2, h3⟩ := gk_eq hl (by decide)
      rw [h3]
      exact .of_eq (match us, ws, h1, h2 with | [_, _], [_], _, _ => rfl), gk_rel⟩,
    kb_degree_of := ⟨fun s us ws _ hl => by
      obtain ⟨h1, h2, h3⟩ := gk_eq hl (by decide)
      rw [h3]
      exact .of_eq (match us, ws, h1, h2 with | [_], [_], _, _ => rfl), gk_rel⟩,
    cB := cB,
    g_BadFormula := mg_of X G aB,
    oxB := ⟨⟨nmB, qB, NB, bsB, _, snB, subB, abB, colB, ddB, b0, b1, b2, b3, b5, xB, by decide +kernel⟩, n_saB, n_exB, n_tyB, n_kpB⟩,
    xfB := ⟨n_gaB, n_ggB, n_exB, n_hdB⟩,
    iB := a0,
    tB := t0,
    teB := exm_own n_exB n_icB n_tyB n_ssB,
    bCode := xB_code,
    bWhy := xB_why,
    cS := cS,
    g_NoSuch := mg_of X G aS,
    oxS := ⟨⟨nmS, qS, NS, bsS, snS, subS, abS, colS, ddS, s0, s1, s2, s3, s5, xS⟩, n_saS, n_exS, n_tyS, n_kpS⟩,
    xfS := ⟨n_gaS, n_ggS, n_exS, n_hdS⟩,
    iS := a1,
    tS := t1,
    teS := exm_own n_exS n_icS n_tyS n_ssS,
    sCode := xS_code,
    sName := xS_name,
    vV := v_V,
    vL := v_L,
    aK := aK,
    g_KEPT_WORDS := mg_of X G aK_,
    kK := fun H => .inr ⟨_, _, _, kL, rfl, rfl, by show 20 ≤ sizeLine; decide, vals_strs _ _ (.cons ⟨_, rfl⟩ (.cons ⟨_, rfl⟩ (.cons ⟨_, rfl⟩ (.cons ⟨_, rfl⟩ (.cons ⟨_, rfl⟩ (.cons ⟨_, rfl⟩ (.cons ⟨_, rfl⟩ (.cons ⟨_, rfl⟩ (.cons ⟨_, rfl⟩ (.cons ⟨_, rfl⟩ (.cons ⟨_, rfl⟩ (.cons ⟨_, rfl⟩ (.cons ⟨_, rfl⟩ (.cons ⟨_, rfl⟩ (.cons ⟨_, rfl⟩ (.cons ⟨_, rfl⟩ (.cons ⟨_, rfl⟩ (.cons ⟨_, rfl⟩ (.cons ⟨_, rfl⟩ (.cons ⟨_, rfl⟩ (.nil)))))))))))))))))))))⟩,
    aC := aC,
    g_CALL_NAMES := mg_of X G aC_,
    kC := fun H => .inr ⟨_, _, _, cL, rfl, rfl, by show 6 ≤ sizeLine; decide, vals_strs _ _ (.cons ⟨_, rfl⟩ (.cons ⟨_, rfl⟩ (.cons ⟨_, rfl⟩ (.cons ⟨_, rfl⟩ (.cons ⟨_, rfl⟩ (.cons ⟨_, rfl⟩ (.nil)))))))⟩,
    g_LETTERS := ⟨_, mg_of X G q_LETTERS, ⟨_, rfl⟩⟩,
    g_NAME_SIGNS := ⟨_, mg_of X G q_NAME_SIGNS, ⟨_, rfl⟩⟩,
    g_SIGNS := ⟨_, mg_of X G q_SIGNS, ⟨_, rfl⟩⟩,
    g_NEGATIVE := ⟨_, mg_of X G q_NEGATIVE, ⟨_, rfl⟩⟩,
    g_NAME_LENGTH := ⟨_, mg_of X G q_NAME_LENGTH, ⟨_, rfl⟩⟩,
    g_ATOM := ⟨_, mg_of X G q_ATOM, ⟨_, rfl⟩⟩,
    g_POWER := ⟨_, mg_of X G q_POWER, ⟨_, rfl⟩⟩,
    g_PRODUCT := ⟨_, mg_of X G q_PRODUCT, ⟨_, rfl⟩⟩,
    g_SUM := ⟨_, mg_of X G q_SUM, ⟨_, rfl⟩⟩,
    g_TEXT := ⟨_, mg_of X G q_TEXT, ⟨_, rfl⟩⟩,
    g_DIGITS := ⟨_, mg_of X G q_DIGITS, ⟨_, rfl⟩⟩,
    g_DEPTH := ⟨_, mg_of X G q_DEPTH, ⟨_, rfl⟩⟩,
    g_SIZE := ⟨_, mg_of X G q_SIZE, ⟨_, rfl⟩⟩,
    aR := aR,
    g_RANKS := mg_of X G aR_,
    eR := eR,
    mR := mR,
    k_RANKS := ⟨lR_, uR_, sR_⟩,
    hR := fun q hq => by
      simp only [List.mem_cons, List.mem_nil_iff, or_false] at hq
      rcases hq with rfl | rfl | rfl | rfl | rfl
      · exact ⟨_, hR0, ⟨_, rfl⟩⟩
      · exact ⟨_, hR1, ⟨_, rfl⟩⟩
      · exact ⟨_, hR2, ⟨_, rfl⟩⟩
      · exact ⟨_, hR3, ⟨_, rfl⟩⟩
      · exact ⟨_, hR4, ⟨_, rfl⟩⟩,
    aN := aN,
    g_NODES := mg_of X G aN_,
    eN := eN,
    mN := mN,
    k_NODES := ⟨lN_, uN_, sN_⟩,
    hN := fun q hq => by
      simp only [List.mem_cons, List.mem_nil_iff, or_false] at hq
      rcases hq with rfl | rfl | rfl | rfl
      · exact ⟨_, hN0, ⟨_, rfl⟩⟩
      · exact ⟨_, hN1, ⟨_, rfl⟩⟩
      · exact ⟨_, hN2, ⟨_, rfl⟩⟩
      · exact ⟨_, hN3, ⟨_, rfl⟩⟩,
    aM := aM,
    g_MARKS := mg_of X G aM_,
    eM := eM,
    mM := mM,
    k_MARKS := ⟨lM_, uM_, sM_⟩,
    hM := fun q hq => by
      simp only [List.mem_cons, List.mem_nil_iff, or_false] at hq
      rcases hq with rfl | rfl | rfl | rfl
      · exact ⟨_, hM0, ⟨_, rfl⟩⟩
      · exact ⟨_, hM1, ⟨_, rfl⟩⟩
      · exact ⟨_, hM2, ⟨_, rfl⟩⟩
      · exact ⟨_, hM3, ⟨_, rfl⟩⟩,
    iR := fun q hq => by
      unfold callS at hq
      simp only [List.mem_cons, List.mem_nil_iff, or_false] at hq
      rcases hq with rfl | rfl | rfl | rfl | rfl | rfl | rfl
      · exact mR0
      · exact mR1
      · exact mR2
      · exact mR3
      · exact mR4
      · exact mR5
      · exact mR6,
    n_isinstance := mg_none_of X G z_isinstance,
    n_int := mg_none_of X G z_int,
    n_bool := mg_none_of X G z_bool,
    n_str := mg_none_of X G z_str,
    n_list := mg_none_of X G z_list,
    n_tuple := mg_none_of X G z_tuple,
    n_dict := mg_none_of X G z_dict,
    n_len := mg_none_of X G z_len,
    n_range := mg_none_of X G z_range,
    n_all := mg_none_of X G z_all,
    n_max := mg_none_of X G z_max,
    n_repr := mg_none_of X G z_repr,
    n_ValueError := mg_none_of X G z_ValueError,
    n_LookupError := mg_none_of X G z_LookupError }, rfl, fun s u => .of_eq rfl⟩
end F1
end
open PySem PySem.W PyProof.Rows
open_top k1_head for PySem.Challenge.rw_callsleft_k01_formulas_read_and_put_in
set_option pp.deepTerms false
set_option maxRecDepth 100000 in
set_option maxHeartbeats 0 in
theorem PySem.Challenge.cw_callsleft_k01_formulas_read_and_put_in_holds : PySem.Challenge.rw_callsleft_k01_formulas_read_and_put_in.Holds := by
  refine k1_head ?_
  k_fill
  refine L2.walk_of (l := PySem.Challenge.rw_callsleft_k01_formulas_read_and_put_in) (n := 63) (k := 210) (x := "script") (CX := fun _ => L2.CX0) (sp := fun w => F1.spLaw _) rfl (by decide) rfl ⟨rfl, by decide, by decide⟩ (fun w h Y => PySem.W.kIn_of Y) ?F (fun _ _ a ns hl _ hS => ⟨a, ns, rfl, hS, hl, fun _ => rfl⟩) (fun _ _ _ _ _ h => h)
  case F =>
    intro w mg fa h KX G hmg
    refine' Exists.elim (F1.all_mk (w := w) KX G hmg ?aCT ?c_pgT ?c_hdT ?c_poT ?c_saT ?c_mkT ?c_kpT ?nT__words ?nT__at ?nT__trees ?nT__signs ?nT__has_operand ?nT__has_power ?aCF ?c_pgF ?c_hdF ?c_poF ?c_saF ?c_mkF ?c_kpF ?nF_tree ?nF__text ?nF_names ?nF_depth ?nF_size ?c_ha ?c_hn ?c_ht ?c_hm ?aB ?xB ?aS ?xS ?n_saB ?n_exB ?n_tyB ?n_kpB ?n_gaB ?n_ggB ?n_hdB ?n_icB ?xB_code ?xB_why ?n_ssB ?n_saS ?n_exS ?n_tyS ?n_kpS ?n_gaS ?n_ggS ?n_hdS ?n_icS ?xS_code ?xS_name ?n_ssS ?v_V ?v_L ?aK_ ?kL ?aC_ ?cL ?q_LETTERS ?q_NAME_SIGNS ?q_SIGNS ?q_NEGATIVE ?q_NAME_LENGTH ?q_ATOM ?q_POWER ?q_PRODUCT ?q_SUM ?q_TEXT ?q_DIGITS ?q_DEPTH ?q_SIZE ?aR_ ?lR_ ?uR_ ?sR_ ?hR0 ?hR1 ?hR2 ?hR3 ?hR4 ?aN_ ?lN_ ?uN_ ?sN_ ?hN0 ?hN1 ?hN2 ?hN3 ?aM_ ?lM_ ?uM_ ?sM_ ?hM0 ?hM1 ?hM2 ?hM3 ?mR0 ?mR1 ?mR2 ?mR3 ?mR4 ?mR5 ?mR6 ?pA ?pG ?pT ?pR ?z_isinstance ?z_int ?z_bool ?z_str ?z_list ?z_tuple ?z_dict ?z_len ?z_range ?z_all ?z_max ?z_repr ?z_ValueError ?z_LookupError ?a0 ?t0 ?l0 ?c0 ?k0 ?a1 ?t1 ?l1 ?c1 ?k1 ?a2 ?l2 ?c2 ?k2 ?a3 ?l3 ?c3 ?k3 ?a4 ?l4 ?c4 ?k4 ?a5 ?t5 ?l5 ?c5 ?k5 ?a6 ?t6 ?l6 ?c6 ?k6 ?a7 ?t7 ?l7 ?c7 ?k7 ?a8 ?t8 ?l8 ?c8 ?k8 ?a9 ?t9 ?l9 ?c9 ?k9 ?a10 ?t10 ?l10 ?c10 ?k10 ?a11 ?t11 ?l11 ?c11 ?k11 ?a12 ?t12 ?l12 ?c12 ?k12 ?a13 ?t13 ?l13 ?c13 ?k13 ?a14 ?t14 ?l14 ?c14 ?k14 ?a15 ?l15 ?c15 ?k15 ?a16 ?l16 ?c16 ?k16 ?a17 ?l17 ?c17 ?k17 ?a18 ?l18 ?c18 ?k18 ?a19 ?l19 ?c19 ?k19 ?a20 ?l20 ?c20 ?k20 ?a21 ?l21 ?c21 ?k21 ?a22 ?l22 ?c22 ?k22 ?a23 ?l23 ?c23 ?k23 ?a24 ?l24 ?c24 ?k24 ?a25 ?l25 ?c25 ?k25 ?a26 ?l26 ?c26 ?k26 ?a27 ?l27 ?c27 ?k27 ?a28 ?l28 ?c28 ?k28 ?a29 ?l29 ?c29 ?k29 ?a30 ?l30 ?c30 ?k30 ?a31 ?t31 ?l31 ?dF ?c31 ?k31 ?l32 ?c32 ?k32 ?a33 ?t33 ?l33 ?c33 ?k33 ?a34 ?t34 ?l34 ?c34 ?k34 ?a35 ?t35 ?l35 ?c35 ?k35 ?a36 ?l36 ?c36 ?k36 ?a37 ?l37 ?c37 ?k37 ?a38 ?l38 ?c38 ?k38 ?a39 ?l39 ?c39 ?k39 ?a40 ?l40 ?c40 ?k40 ?a41 ?l41 ?c41 ?k41 ?a42 ?l42 ?c42 ?k42 ?a43 ?l43 ?c43 ?k43 ?a44 ?l44 ?c44 ?k44 ?a45 ?l45 ?c45 ?k45 ?a46 ?l46 ?c46 ?k46 ?a47 ?l47 ?c47 ?k47 ?a48 ?l48 ?c48 ?k48 ?a49 ?l49 ?c49 ?k49 ?a50 ?l50 ?c50 ?k50 ?a51 ?l51 ?c51 ?k51 ?a52 ?l52 ?c52 ?k52 ?a53 ?l53 ?c53 ?k53 ?a54 ?l54 ?c54 ?k54 ?a55 ?l55 ?c55 ?k55 ?a56 ?l56 ?c56 ?k56 ?a57 ?l57 ?c57 ?k57 ?a58 ?l58 ?c58 ?k58 ?a59 ?l59 ?c59 ?k59 ?a60 ?l60 ?c60 ?k60 ?a61 ?l61 ?c61 ?k61 ?a62 ?l62 ?c62 ?k62 ?a63 ?l63 ?c63 ?k63 ?a64 ?l64 ?c64 ?k64 ?a65 ?l65 ?c65 ?k65 ?a66 ?l66 ?c66 ?k66 ?a67 ?l67 ?c67 ?k67 ?a68 ?l68 ?c68 ?k68 ?a69 ?l69 ?c69 ?k69) ?fin
    (case fin => exact fun T e => ⟨T.d_law.fd, e.2, fun base _ _ => e.1 ▸ F1.ok_law T⟩)
    (case aCT => k_is)
    (case c_pgT => k_is)
    (case c_hdT => k_is)
    (case c_poT => k_is)
    (case c_saT => k_is)
    (case c_mkT => k_is)
    (case c_kpT => k_is)
    (case nT__words => k_is)
    (case nT__at => k_is)
    (case nT__trees => k_is)
    (case nT__signs => k_is)
    (case nT__has_operand => k_is)
    (case nT__has_power => k_is)
    (case aCF => k_is)
    (case c_pgF => k_is)
    (case c_hdF => k_is)
    (case c_poF => k_is)
    (case c_saF => k_is)
    (case c_mkF => k_is)
    (case c_kpF => k_is)
    (case nF_tree => k_is)
    (case nF__text => k_is)
    (case nF_names => k_is)
    (case nF_depth => k_is)
    (case nF_size => k_is)
    (case c_ha => k_is)
    (case c_hn => k_is)
    (case c_ht => k_is)
    (case c_hm => k_is)
    (case aB => k_is)
    (case xB => k_is)
    (case aS => k_is)
    (case xS => k_is)
    (case n_saB => k_is)
    (case n_exB => k_is)
    (case n_tyB => k_is)
    (case n_kpB => k_is)
    (case n_gaB => k_is)
    (case n_ggB => k_is)
    (case n_hdB => k_is)
    (case n_icB => k_is)
    (case xB_code => k_is)
    (case xB_why => k_is)
    (case n_ssB => first | rfl | k_is)
    (case n_saS => k_is)
    (case n_exS => k_is)
    (case n_tyS => k_is)
    (case n_kpS => k_is)
    (case n_gaS => k_is)
    (case n_ggS => k_is)
    (case n_hdS => k_is)
    (case n_icS => k_is)
    (case xS_code => k_is)
    (case xS_name => k_is)
    (case n_ssS => first | rfl | k_is)
    (case v_V => k_is)
    (case v_L => k_is)
    (case aK_ => k_is)
    (case kL => k_is)
    (case aC_ => k_is)
    (case cL => k_is)
    (case q_LETTERS => k_is)
    (case q_NAME_SIGNS => k_is)
    (case q_SIGNS => k_is)
    (case q_NEGATIVE => k_is)
    (case q_NAME_LENGTH => k_is)
    (case q_ATOM => k_is)
    (case q_POWER => k_is)
    (case q_PRODUCT => k_is)
    (case q_SUM => k_is)
    (case q_TEXT => k_is)
    (case q_DIGITS => k_is)
    (case q_DEPTH => k_is)
    (case q_SIZE => k_is)
    (case aR_ => k_is)
    (case lR_ => k_is)
    (case uR_ => exact ⟨⟨_, _, rfl, rfl⟩, by repeat (first | exact trivial | refine ⟨⟨_, _, rfl, rfl⟩, ?_⟩)⟩)
    (case sR_ => rfl)
    (case hR0 => k_is)
    (case hR1 => k_is)
    (case hR2 => k_is)
    (case hR3 => k_is)
    (case hR4 => k_is)
    (case aN_ => k_is)
    (case lN_ => k_is)
    (case uN_ => exact ⟨⟨_, _, rfl, rfl⟩, by repeat (first | exact trivial | refine ⟨⟨_, _, rfl, rfl⟩, ?_⟩)⟩)
    (case sN_ => rfl)
    (case hN0 => k_is)
    (case hN1 => k_is)
    (case hN2 => k_is)
    (case hN3 => k_is)
    (case aM_ => k_is)
    (case lM_ => k_is)
    (case uM_ => exact ⟨⟨_, _, rfl, rfl⟩, by repeat (first | exact trivial | refine ⟨⟨_, _, rfl, rfl⟩, ?_⟩)⟩)
    (case sM_ => rfl)
    (case hM0 => k_is)
    (case hM1 => k_is)
    (case hM2 => k_is)
    (case hM3 => k_is)
    (case mR0 => k_is)
    (case mR1 => k_is)
    (case mR2 => k_is)
    (case mR3 => k_is)
    (case mR4 => k_is)
    (case mR5 => k_is)
    (case mR6 => k_is)
    (case pA => k_is)
    (case pG => k_is)
    (case pT => k_is)
    (case pR => k_is)
    (case z_isinstance => k_is)
    (case z_int => k_is)
    (case z_bool => k_is)
    (case z_str => k_is)
    (case z_list => k_is)
    (case z_tuple => k_is)
    (case z_dict => k_is)
    (case z_len => k_is)
    (case z_range => k_is)
    (case z_all => k_is)
    (case z_max => k_is)
    (case z_repr => k_is)
    (case z_ValueError => k_is)
    (case z_LookupError => k_is)
    (case a0 => k_is)
    (case t0 => k_is)
    (case l0 => k_is)
    (case c0 => k_is)
    (case k0 => k_is)
    (case a1 => k_is)
    (case t1 => k_is)
    (case l1 => k_is)
    (case c1 => k_is)
    (case k1 => k_is)
    (case a2 => k_is)
    (case l2 => k_is)
    (case c2 => k_is)
    (case k2 => k_is)
    (case a3 => k_is)
    (case l3 => k_is)
    (case c3 => k_is)
    (case k3 => k_is)
    (case a4 => k_is)
    (case l4 => k_is)
    (case c4 => k_is)
    (case k4 => k_is)
    (case a5 => k_is)
    (case t5 => k_is)
    (case l5 => k_is)
    (case c5 => k_is)
    (case k5 => k_is)
    (case a6 => k_is)
    (case t6 => k_is)
    (case l6 => k_is)
    (case c6 => k_is)
    (case k6 => k_is)
    (case a7 => k_is)
    (case t7 => k_is)
    (case l7 => k_is)
    (case c7 => k_is)
    (case k7 => k_is)
    (case a8 => k_is)
    (case t8 => k_is)
    (case l8 => k_is)
    (case c8 => k_is)
    (case k8 => k_is)
    (case a9 => k_is)
    (case t9 => k_is)
    (case l9 => k_is)
    (case c9 => k_is)
    (case k9 => k_is)
    (case a10 => k_is)
    (case t10 => k_is)
    (case l10 => k_is)
    (case c10 => k_is)
    (case k10 => k_is)
    (case a11 => k_is)
    (case t11 => k_is)
    (case l11 => k_is)
    (case c11 => k_is)
    (case k11 => k_is)
    (case a12 => k_is)
    (case t12 => k_is)
    (case l12 => k_is)
    (case c12 => k_is)
    (case k12 => k_is)
    (case a13 => k_is)
    (case t13 => k_is)
    (case l13 => k_is)
    (case c13 => k_is)
    (case k13 => k_is)
    (case a14 => k_is)
    (case t14 => k_is)
    (case l14 => k_is)
    (case c14 => k_is)
    (case k14 => k_is)
    (case a15 => k_is)
    (case l15 => k_is)
    (case c15 => k_is)
    (case k15 => k_is)
    (case a16 => k_is)
    (case l16 => k_is)
    (case c16 => k_is)
    (case k16 => k_is)
    (case a17 => k_is)
    (case l17 => k_is)
    (case c17 => k_is)
    (case k17 => k_is)
    (case a18 => k_is)
    (case l18 => k_is)
    (case c18 => k_is)
    (case k18 => k_is)
    (case a19 => k_is)
    (case l19 => k_is)
    (case c19 => k_is)
    (case k19 => k_is)
    (case a20 => k_is)
    (case l20 => k_is)
    (case c20 => k_is)
    (case k20 => k_is)
    (case a21 => k_is)
    (case l21 => k_is)
    (case c21 => k_is)
    (case k21 => k_is)
    (case a22 => k_is)
    (case l22 => k_is)
    (case c22 => k_is)
    (case k22 => k_is)
    (case a23 => k_is)
    (case l23 => k_is)
    (case c23 => k_is)
    (case k23 => k_is)
    (case a24 => k_is)
    (case l24 => k_is)
    (case c24 => k_is)
    (case k24 => k_is)
    (case a25 => k_is)
    (case l25 => k_is)
    (case c25 => k_is)
    (case k25 => k_is)
    (case a26 => k_is)
    (case l26 => k_is)
    (case c26 => k_is)
    (case k26 => k_is)
    (case a27 => k_is)
    (case l27 => k_is)
    (case c27 => k_is)
    (case k27 => k_is)
    (case a28 => k_is)
    (case l28 => k_is)
    (case c28 => k_is)
    (case k28 => k_is)
    (case a29 => k_is)
    (case l29 => k_is)
    (case c29 => k_is)
    (case k29 => k_is)
    (case a30 => k_is)
    (case l30 => k_is)
    (case c30 => k_is)
    (case k30 => k_is)
    (case a31 => k_is)
    (case t31 => k_is)
    (case l31 => k_is)
    (case dF => k_is)
    (case c31 => k_is)
    (case k31 => k_is)
    (case l32 => k_is)
    (case c32 => k_is)
    (case k32 => k_is)
    (case a33 => k_is)
    (case t33 => k_is)
    (case l33 => k_is)
    (case c33 => k_is)
    (case k33 => k_is)
    (case a34 => k_is)
    (case t34 => k_is)
    (case l34 => k_is)
    (case c34 => k_is)
    (case k34 => k_is)
    (case a35 => k_is)
    (case t35 => k_is)
    (case l35 => k_is)
    (case c35 => k_is)
    (case k35 => k_is)
    (case a36 => k_is)
    (case l36 => k_is)
    (case c36 => k_is)
    (case k36 => k_is)
    (case a37 => k_is)
    (case l37 => k_is)
    (case c37 => k_is)
    (case k37 => k_is)
    (case a38 => k_is)
    (case l38 => k_is)
    (case c38 => k_is)
    (case k38 => k_is)
    (case a39 => k_is)
    (case l39 => k_is)
    (case c39 => k_is)
    (case k39 => k_is)
    (case a40 => k_is)
    (case l40 => k_is)
    (case c40 => k_is)
    (case k40 => k_is)
    (case a41 => k_is)
    (case l41 => k_is)
    (case c41 => k_is)
    (case k41 => k_is)
    (case a42 => k_is)
    (case l42 => k_is)
    (case c42 => k_is)
    (case k42 => k_is)
    (case a43 => k_is)
    (case l43 => k_is)
    (case c43 => k_is)
    (case k43 => k_is)
    (case a44 => k_is)
    (case l44 => k_is)
    (case c44 => k_is)
    (case k44 => k_is)
    (case a45 => k_is)
    (case l45 => k_is)
    (case c45 => k_is)
    (case k45 => k_is)
    (case a46 => k_is)
    (case l46 => k_is)
    (case c46 => k_is)
    (case k46 => k_is)
    (case a47 => k_is)
    (case l47 => k_is)
    (case c47 => k_is)
    (case k47 => k_is)
    (case a48 => k_is)
    (case l48 => k_is)
    (case c48 => k_is)
    (case k48 => k_is)
    (case a49 => k_is)
    (case l49 => k_is)
    (case c49 => k_is)
    (case k49 => k_is)
    (case a50 => k_is)
    (case l50 => k_is)
    (case c50 => k_is)
    (case k50 => k_is)
    (case a51 => k_is)
    (case l51 => k_is)
    (case c51 => k_is)
    (case k51 => k_is)
    (case a52 => k_is)
    (case l52 => k_is)
    (case c52 => k_is)
    (case k52 => k_is)
    (case a53 => k_is)
    (case l53 => k_is)
    (case c53 => k_is)
    (case k53 => k_is)
    (case a54 => k_is)
    (case l54 => k_is)
    (case c54 => k_is)
    (case k54 => k_is)
    (case a55 => k_is)
    (case l55 => k_is)
    (case c55 => k_is)
    (case k55 => k_is)
    (case a56 => k_is)
    (case l56 => k_is)
    (case c56 => k_is)
    (case k56 => k_is)
    (case a57 => k_is)
    (case l57 => k_is)
    (case c57 => k_is)
    (case k57 => k_is)
    (case a58 => k_is)
    (case l58 => k_is)
    (case c58 => k_is)
    (case k58 => k_is)
    (case a59 => k_is)
    (case l59 => k_is)
    (case c59 => k_is)
    (case k59 => k_is)
    (case a60 => k_is)
    (case l60 => k_is)
    (case c60 => k_is)
    (case k60 => k_is)
    (case a61 => k_is)
    (case l61 => k_is)
    (case c61 => k_is)
    (case k61 => k_is)
    (case a62 => k_is)
    (case l62 => k_is)
    (case c62 => k_is)
    (case k62 => k_is)
    (case a63 => k_is)
    (case l63 => k_is)
    (case c63 => k_is)
    (case k63 => k_is)
    (case a64 => k_is)
    (case l64 => k_is)
    (case c64 => k_is)
    (case k64 => k_is)
    (case a65 => k_is)
    (case l65 => k_is)
    (case c65 => k_is)
    (case k65 => k_is)
    (case a66 => k_is)
    (case l66 => k_is)
    (case c66 => k_is)
    (case k66 => k_is)
    (case a67 => k_is)
    (case l67 => k_is)
    (case c67 => k_is)
    (case k67 => k_is)
    (case a68 => k_is)
    (case l68 => k_is)
    (case c68 => k_is)
    (case k68 => k_is)
    (case a69 => k_is)
    (case l69 => k_is)
    (case c69 => k_is)
    (case k69 => k_is)
