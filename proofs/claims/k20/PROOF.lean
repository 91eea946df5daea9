import PyProof.Rows.All
import Wide.All
import OpenK.AllK
import Wide.FinOn
import HandS.ForMost
import HandS.ForExc
import HandS.Deep
import HandS.IsInst
import PySem.Challenge.RW_bothcome_k20_who_came
set_option Elab.async false
set_option linter.all false
set_option maxRecDepth 100000
set_option maxHeartbeats 4000000
/-! S1: weakest readings, typed environments, ownership of cells. -/
namespace Sm
open PySem PySem.Spec L2

/-! ### weakest readings -/
section
variable {X : Cx}
def wE (X : Cx) (e : Expr) : TE := fun σ H Q => ∀ pins s, Inv X pins σ H s → wpAny (model X.prog X.w) X.A (eval e X.env) (EP X pins σ Q) X.xe s
def wT (X : Cx) (e : Expr) : TT := fun σ H Q => ∀ pins s, Inv X pins σ H s → wpAny (model X.prog X.w) X.A (isTrue e X.env (eval e X.env)) (TP X pins σ Q) X.xe s
def wW (X : Cx) (e : Expr) : TT := fun σ H Q => ∀ whole pins s, Inv X pins σ H s → wpAny (model X.prog X.w) X.A (isTrue e X.env whole) (TP X pins σ Q) X.xe s
def wA (X : Cx) (es : List Expr) : TA := fun σ H Q => ∀ pos pins s, Inv X pins σ H s → wpAny (model X.prog X.w) X.A (spliced (backTo pos (starEach es X.env))) (AP X pins σ Q) X.xe s
def wS (X : Cx) (st : Stmt) : TS := fun D σ H => ∀ pins s, Inv X pins σ H s → wpAny (model X.prog X.w) X.A (exec st X.env) (SP X pins D) X.xe s
def wSs (X : Cx) (st : List Stmt) : TS := fun D σ H => ∀ pins s, Inv X pins σ H s → wpAny (model X.prog X.w) X.A (execs st X.env) (SP X pins D) X.xe s
theorem pe_w {e : Expr} : PE X e (wE X e) := ⟨fun pins s _ _ _ I h => h pins s I⟩
theorem pt_w {e : Expr} : PT X e (wT X e) := ⟨fun pins s _ _ _ I h => h pins s I⟩
theorem pw_w {e : Expr} : PW X e (wW X e) := ⟨fun whole pins s _ _ _ I h => h whole pins s I⟩
theorem pa_w {es : List Expr} : PA X es (wA X es) := ⟨fun pos pins s _ _ _ I h => h pos pins s I⟩
theorem ps_w {st : Stmt} : PS X st (wS X st) := ⟨fun pins s _ _ _ I h => h pins s I⟩
theorem pss_w {st : List Stmt} : PSs X st (wSs X st) := ⟨fun pins s _ _ _ I h => h pins s I⟩
theorem wE_of {e : Expr} {t : TE} {σ : St} {H : Hp} {Q : VK} (h : PE X e t) (q : t σ H Q) : wE X e σ H Q := fun pins s I => h.run pins s σ H Q I q
theorem wT_of {e : Expr} {t : TT} {σ : St} {H : Hp} {Q : Bool → Hp → Prop} (h : PT X e t) (q : t σ H Q) : wT X e σ H Q := fun pins s I => h.run pins s σ H Q I q
theorem wW_of {e : Expr} {t : TT} {σ : St} {H : Hp} {Q : Bool → Hp → Prop} (h : PW X e t) (q : t σ H Q) : wW X e σ H Q := fun whole pins s I => h.run whole pins s σ H Q I q
theorem wT_of_W {e : Expr} {σ : St} {H : Hp} {Q : Bool → Hp → Prop} (h : wW X e σ H Q) : wT X e σ H Q := fun pins s I => h _ pins s I
theorem wA_of {es : List Expr} {t : TA} {σ : St} {H : Hp} {Q : List V → Hp → Prop} (h : PA X es t) (q : t σ H Q) : wA X es σ H Q := fun pos pins s I => h.run pos pins s σ H Q I q
theorem wS_of {st : Stmt} {t : TS} {σ : St} {H : Hp} {D : Ends} (h : PS X st t) (q : t D σ H) : wS X st D σ H := fun pins s I => h.run pins s σ H D I q
theorem wSs_of {st : List Stmt} {t : TS} {σ : St} {H : Hp} {D : Ends} (h : PSs X st t) (q : t D σ H) : wSs X st D σ H := fun pins s I => h.run pins s σ H D I q
theorem wE_mono {e : Expr} {σ : St} {H : Hp} {Q Q' : VK} (h : wE X e σ H Q) (k : ∀ v H', Q v H' → Q' v H') : wE X e σ H Q' :=
  fun pins s I => thn (h pins s I) fun _ _ ⟨v, H', I', r, q⟩ => ⟨v, H', I', r, k v H' q⟩
end

/-! ### heaps -/
def Ex (H H' : Hp) : Prop := ∀ a o, H a = some o → H' a = some o
theorem Ex.refl (H : Hp) : Ex H H := fun _ _ h => h
theorem Ex.trans {H H1 H2 : Hp} (a : Ex H H1) (b : Ex H1 H2) : Ex H H2 := fun x o h => b x o (a x o h)
theorem Ex.new {H : Hp} {p : Addr} {o : HO} (h : H p = none) : Ex H (upd H p o) := fun a u e => by
  rw [upd_ne (ne_of_none e h)]
  exact e
theorem Ex.rd {H H' : Hp} {a : Addr} {u : HO} (e : Ex H H') (h : Rd H a u) : Rd H' a u := by
  rcases h with h | ⟨o, h⟩
  · exact Or.inl (e a _ h)
  · exact Or.inr ⟨o, e a _ h⟩
theorem Ex.l {K : PySem.W.Frag} {H H' : Hp} {a : Addr} {xs : List V} (e : Ex H H') (h : SqL K H a xs) : SqL K H' a xs := by
  rcases h with h | h
  · exact Or.inl (e.rd h)
  · exact Or.inr h
theorem Ex.t {K : PySem.W.Frag} {H H' : Hp} {a : Addr} {xs : List V} (e : Ex H H') (h : SqT K H a xs) : SqT K H' a xs := by
  rcases h with h | h
  · exact Or.inl (e.rd h)
  · exact Or.inr h
/-- objects that are never changed -/
def im : HO → Bool
  | .tup _ => true
  | .frz _ _ => true
  | _ => false
def ExI (G G' : Hp) : Prop := ∀ a o, G a = some o → im o = true → G' a = some o
theorem Ex.i {H H' : Hp} (e : Ex H H') : ExI H H' := fun a o h _ => e a o h

/-! ### data -/
mutual
/-- as Dp, the lists tracked -/
inductive Dq (K : PySem.W.Frag) (H : Hp) : V → PyData → Prop
  | non : Dq K H .non .none
  | bl (b : Bool) : Dq K H (.bl b) (.bool b)
  | int (i : Int) : Dq K H (.int i) (.int i)
  | str (x : Str) : Dq K H (.str x) (.str x)
  | lst {a : Addr} {xs : List V} {ds : List PyData} : H a = some (.lst xs) → DqAll K H xs ds → Dq K H (.ref a) (.list ds)
  | tup {a : Addr} {xs : List V} {ds : List PyData} : SqT K H a xs → DqAll K H xs ds → Dq K H (.ref a) (.tuple ds)
inductive DqAll (K : PySem.W.Frag) (H : Hp) : List V → List PyData → Prop
  | nil : DqAll K H [] []
  | cons {v : V} {vs : List V} {d : PyData} {ds : List PyData} : Dq K H v d → DqAll K H vs ds → DqAll K H (v :: vs) (d :: ds)
end
mutual
theorem dq_dp {K : PySem.W.Frag} {H : Hp} : ∀ {v : V} {d : PyData}, Dq K H v d → Dp K H v d
  | _, _, .non => .non
  | _, _, .bl b => .bl b
  | _, _, .int i => .int i
  | _, _, .str x => .str x
  | _, _, .lst h k => .lst (SqL.of h) (dqAll_dp k)
  | _, _, .tup h k => .tup h (dqAll_dp k)
theorem dqAll_dp {K : PySem.W.Frag} {H : Hp} : ∀ {vs : List V} {ds : List PyData}, DqAll K H vs ds → DpAll K H vs ds
  | _, _, .nil => .nil
  | _, _, .cons a b => .cons (dq_dp a) (dqAll_dp b)
end
mutual
theorem dq_mono {K : PySem.W.Frag} {H H' : Hp} (e : Ex H H') : ∀ {v : V} {d : PyData}, Dq K H v d → Dq K H' v d
  | _, _, .non => .non
  | _, _, .bl b => .bl b
  | _, _, .int i => .int i
  | _, _, .str x => .str x
  | _, _, .lst h k => .lst (e _ _ h) (dqAll_mono e k)
  | _, _, .tup h k => .tup (e.t h) (dqAll_mono e k)
theorem dqAll_mono {K : PySem.W.Frag} {H H' : Hp} (e : Ex H H') : ∀ {vs : List V} {ds : List PyData}, DqAll K H vs ds → DqAll K H' vs ds
  | _, _, .nil => .nil
  | _, _, .cons a b => .cons (dq_mono e a) (dqAll_mono e b)
end
/-! no list within -/
mutual
def pureD : PyData → Bool
  | .list _ => false
  | .dict _ => false
  | .tuple ds => pureDs ds
  | _ => true
def pureDs : List PyData → Bool
  | [] => true
  | d :: ds => pureD d && pureDs ds
end
theorem ExI.t {K : PySem.W.Frag} {H H' : Hp} {a : Addr} {xs : List V} (e : ExI H H') (h : SqT K H a xs) : SqT K H' a xs := by
  rcases h with (h | ⟨o, h⟩) | h
  · exact Or.inl (Or.inl (e a _ h rfl))
  · exact Or.inl (Or.inr ⟨o, e a _ h rfl⟩)
  · exact Or.inr h
mutual
theorem dq_pure {K : PySem.W.Frag} {H H' : Hp} (e : ExI H H') : ∀ {v : V} {d : PyData}, pureD d = true → Dq K H v d → Dq K H' v d
  | _, _, _, .non => .non
  | _, _, _, .bl b => .bl b
  | _, _, _, .int i => .int i
  | _, _, _, .str x => .str x
  | _, _, p, .lst h k => by simp [pureD] at p
  | _, _, p, .tup h k => .tup (e.t h) (dqAll_pure e (by simpa [pureD] using p) k)
theorem dqAll_pure {K : PySem.W.Frag} {H H' : Hp} (e : ExI H H') : ∀ {vs : List V} {ds : List PyData}, pureDs ds = true → DqAll K H vs ds → DqAll K H' vs ds
  | _, _, _, .nil => .nil
  | _, _, p, .cons a b => .cons (dq_pure e (by simp [pureDs] at p; exact p.1) a) (dqAll_pure e (by simp [pureDs] at p; exact p.2) b)
end

/-- typed data -/
class Enc (α : Type) where
  enc : α → PyData
open Enc (enc)
/-- what may be laid out and compared -/
class Lay (α : Type) [Enc α] where
  dep : Nat
  lay : ∀ x : α, (enc x).canLay0 = true
  dle : ∀ x : α, (enc x).depth ≤ dep
class PureE (α : Type) [Enc α] : Prop where
  pu : ∀ x : α, pureD (enc x) = true
class EqE (α : Type) [Enc α] [DecidableEq α] : Prop where
  eqv : ∀ x y : α, PyData.eqv (enc x) (enc y) = decide (x = y)
theorem shaped_enc {α : Type} [Enc α] [Lay α] (h : Lay.dep α ≤ 64) (x : α) : SeqAt.shaped (enc x) = true := by
  show ((enc x).canLay0 && decide ((enc x).depth ≤ 64)) = true
  rw [Bool.and_eq_true]
  exact ⟨Lay.lay x, decide_eq_true (Nat.le_trans (Lay.dle x) h)⟩
instance : Enc Int := ⟨.int⟩
instance : Enc Bool := ⟨.bool⟩
instance : Enc Str := ⟨.str⟩
instance : Enc Unit := ⟨fun _ => .none⟩
instance : Enc PyData := ⟨id⟩
instance {α : Type} [Enc α] : Enc (List α) := ⟨fun xs => .list (xs.map enc)⟩
instance {α β : Type} [Enc α] [Enc β] : Enc (α × β) := ⟨fun x => .tuple [enc x.1, enc x.2]⟩
/-- a tuple of three, four, five (nested pairs would be read as pairs) -/
structure T3 (α β γ : Type) where
  (a : α) (b : β) (c : γ)
  deriving DecidableEq
structure T4 (α β γ δ : Type) where
  (a : α) (b : β) (c : γ) (d : δ)
  deriving DecidableEq
instance {α β γ : Type} [Enc α] [Enc β] [Enc γ] : Enc (T3 α β γ) := ⟨fun x => .tuple [enc x.a, enc x.b, enc x.c]⟩
instance {α β γ δ : Type} [Enc α] [Enc β] [Enc γ] [Enc δ] : Enc (T4 α β γ δ) := ⟨fun x => .tuple [enc x.a, enc x.b, enc x.c, enc x.d]⟩
instance : Lay Int := ⟨0, fun x => by show PyData.canLay0 (.int x) = true; simp [PyData.canLay0], fun x => by show PyData.depth (.int x) ≤ 0; simp [PyData.depth]⟩
instance : Lay Bool := ⟨0, fun x => by show PyData.canLay0 (.bool x) = true; simp [PyData.canLay0], fun x => by show PyData.depth (.bool x) ≤ 0; simp [PyData.depth]⟩
instance : Lay Unit := ⟨0, fun x => by show PyData.canLay0 .none = true; simp [PyData.canLay0], fun x => by show PyData.depth .none ≤ 0; simp [PyData.depth]⟩
theorem lay_all {α : Type} [Enc α] [Lay α] : ∀ xs : List α, PyData.canLayAll0 (xs.map enc) = true
  | [] => by simp [PyData.canLayAll0]
  | x :: xs => by simp [PyData.canLayAll0, Lay.lay x, lay_all xs]
theorem dep_all {α : Type} [Enc α] [Lay α] : ∀ xs : List α, PyData.depthAll (xs.map enc) ≤ Lay.dep α
  | [] => by simp [PyData.depthAll]
  | x :: xs => by
    have := dep_all xs
    have := Lay.dle x
    simp only [List.map_cons, PyData.depthAll]; omega
instance {α : Type} [Enc α] [Lay α] : Lay (List α) := ⟨Lay.dep α + 1, fun xs => by
  show PyData.canLay0 (.list (xs.map enc)) = true
  simp only [PyData.canLay0]; exact lay_all xs, fun xs => by
  have := dep_all xs
  show PyData.depth (.list (xs.map enc)) ≤ _
  simp only [PyData.depth]; omega⟩
instance {α β : Type} [Enc α] [Enc β] [Lay α] [Lay β] : Lay (α × β) := ⟨Lay.dep α + Lay.dep β + 1, fun x => by
  show PyData.canLay0 (.tuple [enc x.1, enc x.2]) = true
  simp [PyData.canLay0, PyData.canLayAll0, Lay.lay], fun x => by
  have := Lay.dle x.1
  have := Lay.dle x.2
  show PyData.depth (.tuple [enc x.1, enc x.2]) ≤ _
  simp only [PyData.depth, PyData.depthAll]; omega⟩
instance {α β γ : Type} [Enc α] [Enc β] [Enc γ] [Lay α] [Lay β] [Lay γ] : Lay (T3 α β γ) := ⟨Lay.dep α + Lay.dep β + Lay.dep γ + 1, fun x => by
  show PyData.canLay0 (.tuple [enc x.a, enc x.b, enc x.c]) = true
  simp [PyData.canLay0, PyData.canLayAll0, Lay.lay], fun x => by
  have := Lay.dle x.a
  have := Lay.dle x.b
  have := Lay.dle x.c
  show PyData.depth (.tuple [enc x.a, enc x.b, enc x.c]) ≤ _
  simp only [PyData.depth, PyData.depthAll]; omega⟩
instance {α β γ δ : Type} [Enc α] [Enc β] [Enc γ] [Enc δ] [Lay α] [Lay β] [Lay γ] [Lay δ] : Lay (T4 α β γ δ) := ⟨Lay.dep α + Lay.dep β + Lay.dep γ + Lay.dep δ + 1, fun x => by
  show PyData.canLay0 (.tuple [enc x.a, enc x.b, enc x.c, enc x.d]) = true
  simp [PyData.canLay0, PyData.canLayAll0, Lay.lay], fun x => by
  have := Lay.dle x.a
  have := Lay.dle x.b
  have := Lay.dle x.c
  have := Lay.dle x.d
  show PyData.depth (.tuple [enc x.a, enc x.b, enc x.c, enc x.d]) ≤ _
  simp only [PyData.depth, PyData.depthAll]; omega⟩
instance : PureE Int := ⟨fun _ => rfl⟩
instance : PureE Bool := ⟨fun _ => rfl⟩
instance : PureE Str := ⟨fun _ => rfl⟩
instance : PureE Unit := ⟨fun _ => rfl⟩
instance {α β : Type} [Enc α] [Enc β] [PureE α] [PureE β] : PureE (α × β) := ⟨fun x => by
  show pureD (.tuple [enc x.1, enc x.2]) = true
  simp [pureD, pureDs, PureE.pu]⟩
instance {α β γ : Type} [Enc α] [Enc β] [Enc γ] [PureE α] [PureE β] [PureE γ] : PureE (T3 α β γ) := ⟨fun x => by
  show pureD (.tuple [enc x.a, enc x.b, enc x.c]) = true
  simp [pureD, pureDs, PureE.pu]⟩
instance {α β γ δ : Type} [Enc α] [Enc β] [Enc γ] [Enc δ] [PureE α] [PureE β] [PureE γ] [PureE δ] : PureE (T4 α β γ δ) := ⟨fun x => by
  show pureD (.tuple [enc x.a, enc x.b, enc x.c, enc x.d]) = true
  simp [pureD, pureDs, PureE.pu]⟩
instance : EqE Int := ⟨fun x y => by
  show PyData.eqv (.int x) (.int y) = _
  simp [PyData.eqv, Bool.beq_eq_decide_eq]⟩
instance : EqE Bool := ⟨fun x y => by
  show PyData.eqv (.bool x) (.bool y) = _
  simp [PyData.eqv, Bool.beq_eq_decide_eq]⟩
instance : EqE Unit := ⟨fun x y => by
  show PyData.eqv .none .none = _
  simp [PyData.eqv]⟩
theorem eqv_all {α : Type} [Enc α] [DecidableEq α] [EqE α] : ∀ xs ys : List α, PyData.eqvAll (xs.map enc) (ys.map enc) = decide (xs = ys)
  | [], [] => by simp [PyData.eqvAll]
  | [], _ :: _ => by simp [PyData.eqvAll]
  | _ :: _, [] => by simp [PyData.eqvAll]
  | x :: xs, y :: ys => by simp [PyData.eqvAll, EqE.eqv x y, eqv_all xs ys]
instance {α : Type} [Enc α] [DecidableEq α] [EqE α] : EqE (List α) := ⟨fun xs ys => by
  show PyData.eqv (.list (xs.map enc)) (.list (ys.map enc)) = _
  simp only [PyData.eqv]; exact eqv_all xs ys⟩
instance {α β : Type} [Enc α] [Enc β] [DecidableEq α] [DecidableEq β] [EqE α] [EqE β] : EqE (α × β) := ⟨fun x y => by
  obtain ⟨a, b⟩ := x
  obtain ⟨c, d⟩ := y
  show PyData.eqv (.tuple [enc a, enc b]) (.tuple [enc c, enc d]) = _
  simp [PyData.eqv, PyData.eqvAll, EqE.eqv]⟩
instance {α β γ : Type} [Enc α] [Enc β] [Enc γ] [DecidableEq α] [DecidableEq β] [DecidableEq γ] [EqE α] [EqE β] [EqE γ] : EqE (T3 α β γ) := ⟨fun x y => by
  obtain ⟨a, b, e⟩ := x
  obtain ⟨c, d, f⟩ := y
  show PyData.eqv (.tuple [enc a, enc b, enc e]) (.tuple [enc c, enc d, enc f]) = _
  simp [PyData.eqv, PyData.eqvAll, EqE.eqv]⟩
instance {α β γ δ : Type} [Enc α] [Enc β] [Enc γ] [Enc δ] [DecidableEq α] [DecidableEq β] [DecidableEq γ] [DecidableEq δ] [EqE α] [EqE β] [EqE γ] [EqE δ] : EqE (T4 α β γ δ) := ⟨fun x y => by
  obtain ⟨a, b, e, g⟩ := x
  obtain ⟨c, d, f, h⟩ := y
  show PyData.eqv (.tuple [enc a, enc b, enc e, enc g]) (.tuple [enc c, enc d, enc f, enc h]) = _
  simp [PyData.eqv, PyData.eqvAll, EqE.eqv]⟩
end Sm
/-! S2: what a slot holds, environments, the state. -/
namespace Sm
open PySem PySem.Spec L2
open Enc (enc)

abbrev Fr := PySem.W.Frag
/-- how a typed value lies: G is what never changes, H the heap, A the cells that belong to it -/
structure RT (K : Fr) (α : Type) where
  rel : Hp → Hp → V → α → (Addr → Prop) → Prop
  shr : Hp → V → α → Prop
  fix : Bool
  grow : ∀ {G G' H H' : Hp} {v : V} {x : α} {A : Addr → Prop}, rel G H v x A → Ex G G' → (∀ a, A a → H' a = H a) → rel G' H' v x A
  view : ∀ {G G' H : Hp} {v : V} {x : α} {A : Addr → Prop}, rel G H v x A → Ex G G' → (∀ a o, A a → H a = some o → G' a = some o) → shr G' v x
  smono : ∀ {G G' : Hp} {v : V} {x : α}, shr G v x → Ex G G' → shr G' v x
  wid : ∀ {G H : Hp} {v : V} {x : α} {A B : Addr → Prop}, rel G H v x A → (∀ a, A a → B a) → rel G H v x B
  ok : (fix = true ∧ ∀ (G H : Hp) (v : V) (x : α) (A : Addr → Prop), rel G H v x A ↔ shr G v x) ∨ (fix = false ∧ ∀ (G G' H : Hp) (v : V) (x : α) (A : Addr → Prop), rel G H v x A → ExI G G' → rel G' H v x A)
section
variable {K : Fr} {α β : Type}
def Lin (R : RT K α) : Prop := ∀ (G G' H : Hp) (v : V) (x : α) (A : Addr → Prop), R.rel G H v x A → ExI G G' → R.rel G' H v x A
def Cpy (R : RT K α) : Prop := ∀ (G H : Hp) (v : V) (x : α) (A : Addr → Prop), R.rel G H v x A ↔ R.shr G v x
theorem cpy_of {R : RT K α} (h : R.fix = true) : Cpy R := by
  rcases R.ok with ⟨_, k⟩ | ⟨f, _⟩
  · exact k
  · rw [h] at f; cases f
theorem lin_of {R : RT K α} (h : R.fix = false) : Lin R := by
  rcases R.ok with ⟨f, _⟩ | ⟨_, k⟩
  · rw [h] at f; cases f
  · exact k
/-- data that is shared -/
def RT.dat (K : Fr) (α : Type) [Enc α] : RT K α where
  rel := fun G _ v x _ => Dq K G v (enc x)
  shr := fun G v x => Dq K G v (enc x)
  fix := true
  grow := fun h e _ => dq_mono e h
  view := fun h e _ => dq_mono e h
  smono := fun h e => dq_mono e h
  wid := fun h _ => h
  ok := .inl ⟨rfl, fun _ _ _ _ _ => Iff.rfl⟩
theorem lin_dat [Enc α] [PureE α] : Lin (RT.dat K α) := fun _ _ _ _ x _ h e => dq_pure e (PureE.pu x) h
/-- the shared view of something -/
def RT.sh (R : RT K α) : RT K α where
  rel := fun G _ v x _ => R.shr G v x
  shr := R.shr
  fix := true
  grow := fun h e _ => R.smono h e
  view := fun h e _ => R.smono h e
  smono := R.smono
  wid := fun h _ => h
  ok := .inl ⟨rfl, fun _ _ _ _ _ => Iff.rfl⟩
/-- no more known -/
def RT.dead (K : Fr) (α : Type) : RT K α where
  rel := fun _ _ _ _ _ => True
  shr := fun _ _ _ => True
  fix := true
  grow := fun _ _ _ => trivial
  view := fun _ _ _ => trivial
  smono := fun _ _ => trivial
  wid := fun _ _ => trivial
  ok := .inl ⟨rfl, fun _ _ _ _ _ => Iff.rfl⟩
def All2 {α β : Type} (P : α → β → Prop) : List α → List β → Prop
  | [], [] => True
  | a :: as, b :: bs => P a b ∧ All2 P as bs
  | _, _ => False
theorem All2.imp {α β : Type} {P Q : α → β → Prop} (f : ∀ a b, P a b → Q a b) : ∀ {as : List α} {bs : List β}, All2 P as bs → All2 Q as bs
  | [], [], _ => trivial
  | _ :: _, _ :: _, h => ⟨f _ _ h.1, All2.imp f h.2⟩
theorem All2.len {α β : Type} {P : α → β → Prop} : ∀ {as : List α} {bs : List β}, All2 P as bs → as.length = bs.length
  | [], [], _ => rfl
  | _ :: _, _ :: _, h => by simp [All2.len h.2]
theorem All2.app {α β : Type} {P : α → β → Prop} : ∀ {as cs : List α} {bs ds : List β}, All2 P as bs → All2 P cs ds → All2 P (as ++ cs) (bs ++ ds)
  | [], _, [], _, _, h => h
  | _ :: _, _, _ :: _, _, h, k => ⟨h.1, All2.app h.2 k⟩
theorem All2.get {α β : Type} {P : α → β → Prop} : ∀ {as : List α} {bs : List β} {i : Nat} {b : β}, All2 P as bs → bs[i]? = some b → ∃ a, as[i]? = some a ∧ P a b
  | [], [], _, _, _, e => by simp at e
  | a :: _, b :: _, 0, c, h, e => by
    have e' : b = c := by simpa using e
    subst e'
    exact ⟨a, rfl, h.1⟩
  | _ :: _, _ :: _, i + 1, c, h, e => by
    obtain ⟨a, h1, h2⟩ := All2.get (i := i) h.2 (by simpa using e)
    exact ⟨a, by simpa using h1, h2⟩
theorem All2.set {α β : Type} {P : α → β → Prop} {a : α} {b : β} (p : P a b) : ∀ {as : List α} {bs : List β} (i : Nat), All2 P as bs → All2 P (as.set i a) (bs.set i b)
  | [], [], _, h => h
  | _ :: _, _ :: _, 0, h => ⟨p, h.2⟩
  | _ :: _, _ :: _, i + 1, h => ⟨h.1, All2.set p i h.2⟩
theorem All2.take {α β : Type} {P : α → β → Prop} : ∀ {as : List α} {bs : List β} (i : Nat), All2 P as bs → All2 P (as.take i) (bs.take i)
  | [], [], i, _ => by simp [All2]
  | _ :: _, _ :: _, 0, _ => by simp [All2]
  | _ :: _, _ :: _, i + 1, h => ⟨h.1, All2.take i h.2⟩
theorem All2.drop {α β : Type} {P : α → β → Prop} : ∀ {as : List α} {bs : List β} (i : Nat), All2 P as bs → All2 P (as.drop i) (bs.drop i)
  | [], [], i, _ => by simp [All2]
  | _ :: _, _ :: _, 0, h => h
  | _ :: _, _ :: _, i + 1, h => All2.drop i h.2
theorem All2.rev {α β : Type} {P : α → β → Prop} : ∀ {as : List α} {bs : List β}, All2 P as bs → All2 P as.reverse bs.reverse
  | [], [], _ => by simp [All2]
  | a :: as, b :: bs, h => by
    rw [List.reverse_cons, List.reverse_cons]
    exact All2.app (All2.rev h.2) ⟨h.1, trivial⟩
theorem dqAll_all2 [Enc α] {H : Hp} : ∀ {vs : List V} {xs : List α}, DqAll K H vs (xs.map enc) ↔ All2 (fun v x => Dq K H v (enc x)) vs xs
  | [], [] => ⟨fun _ => trivial, fun _ => .nil⟩
  | [], _ :: _ => ⟨fun h => (by cases h), fun h => (show False from h).elim⟩
  | _ :: _, [] => ⟨fun h => (by cases h), fun h => (show False from h).elim⟩
  | v :: vs, x :: xs => ⟨fun h => by
      cases h with
      | cons a b => exact ⟨a, dqAll_all2.mp b⟩, fun h => .cons h.1 (dqAll_all2.mpr h.2)⟩
/-- a list of one's own, of pure data -/
def RT.own (K : Fr) (α : Type) [Enc α] [PureE α] : RT K (List α) where
  rel := fun G H v xs A => ∃ p vs, v = .ref p ∧ A p ∧ H p = some (.lst vs) ∧ All2 (fun v x => Dq K G v (enc x)) vs xs
  shr := fun G v x => Dq K G v (enc x)
  fix := false
  grow := fun ⟨p, vs, e, a, h, k⟩ g f => ⟨p, vs, e, a, (f p a).trans h, k.imp fun _ _ q => dq_mono g q⟩
  view := fun ⟨p, vs, e, a, h, k⟩ g f => by
    subst e
    exact Dq.lst (f p _ a h) (dqAll_all2.mpr (k.imp fun _ _ q => dq_mono g q))
  smono := fun h e => dq_mono e h
  wid := fun ⟨p, vs, e, a, h, k⟩ f => ⟨p, vs, e, f p a, h, k⟩
  ok := .inr ⟨rfl, fun _ _ _ _ _ _ ⟨p, vs, e, a, h, k⟩ f => ⟨p, vs, e, a, h, k.imp fun _ x q => dq_pure f (PureE.pu x) q⟩⟩
end

/-! ### environments -/
def Env : List Type → Type
  | [] => Unit
  | α :: r => Option α × Env r
inductive Var : List Type → Type → Type 1
  | vz {α : Type} {r : List Type} : Var (α :: r) α
  | vs {α β : Type} {r : List Type} : Var r α → Var (β :: r) α
def RTs (K : Fr) : List Type → Type
  | [] => Unit
  | α :: r => RT K α × RTs K r
namespace Var
def idx : {αs : List Type} → {α : Type} → Var αs α → Nat
  | _, _, (.vz) => 0
  | _, _, (.vs x) => x.idx + 1
def get : {αs : List Type} → {α : Type} → Var αs α → Env αs → Option α
  | _, _, (.vz), s => s.1
  | _, _, (.vs x), s => x.get s.2
def set : {αs : List Type} → {α : Type} → Var αs α → Option α → Env αs → Env αs
  | _, _, (.vz), a, s => (a, s.2)
  | _, _, (.vs x), a, s => (s.1, x.set a s.2)
def rt {K : Fr} : {αs : List Type} → {α : Type} → Var αs α → RTs K αs → RT K α
  | _, _, (.vz), s => s.1
  | _, _, (.vs x), s => x.rt s.2
def setR {K : Fr} : {αs : List Type} → {α : Type} → Var αs α → RT K α → RTs K αs → RTs K αs
  | _, _, (.vz), a, s => (a, s.2)
  | _, _, (.vs x), a, s => (s.1, x.setR a s.2)
theorem lt : ∀ {αs : List Type} {α : Type} (x : Var αs α), x.idx < αs.length
  | _, _, (.vz) => Nat.succ_pos _
  | _, _, (.vs x) => Nat.succ_lt_succ x.lt
/-- either the same or another place -/
theorem split : ∀ {αs : List Type} {α : Type} (x : Var αs α) {P : ∀ β, Var αs β → Prop}, P α x → (∀ β (y : Var αs β), y.idx ≠ x.idx → P β y) → ∀ β (y : Var αs β), P β y
  | _, _, (.vz), P, h1, h2, β, y => by
    cases y with
    | vz => exact h1
    | vs y => exact h2 _ _ (by simp [idx])
  | _, _, (.vs x), P, h1, h2, β, y => by
    cases y with
    | vz => exact h2 _ _ (by simp [idx])
    | vs y => exact split x (P := fun β y => P β (.vs y)) h1 (fun β y h => h2 β (.vs y) (by simpa [idx] using h)) β y
theorem get_set : ∀ {αs : List Type} {α : Type} (x : Var αs α) (a : Option α) (s : Env αs), x.get (x.set a s) = a
  | _, _, (.vz), _, _ => rfl
  | _, _, (.vs x), a, s => x.get_set a s.2
theorem rt_set {K : Fr} : ∀ {αs : List Type} {α : Type} (x : Var αs α) (a : RT K α) (s : RTs K αs), x.rt (x.setR a s) = a
  | _, _, (.vz), _, _ => rfl
  | _, _, (.vs x), a, s => x.rt_set a s.2
theorem get_ne : ∀ {αs : List Type} {α β : Type} (x : Var αs α) (y : Var αs β) (a : Option α) (s : Env αs), y.idx ≠ x.idx → y.get (x.set a s) = y.get s
  | _, _, _, (.vz), (.vz), _, _, h => absurd rfl h
  | _, _, _, (.vz), (.vs _), _, _, _ => rfl
  | _, _, _, (.vs _), (.vz), _, _, _ => rfl
  | _, _, _, (.vs x), (.vs y), a, s, h => get_ne x y a s.2 (by simpa [idx] using h)
theorem rt_ne {K : Fr} : ∀ {αs : List Type} {α β : Type} (x : Var αs α) (y : Var αs β) (a : RT K α) (s : RTs K αs), y.idx ≠ x.idx → y.rt (x.setR a s) = y.rt s
  | _, _, _, (.vz), (.vz), _, _, h => absurd rfl h
  | _, _, _, (.vz), (.vs _), _, _, _ => rfl
  | _, _, _, (.vs _), (.vz), _, _, _ => rfl
  | _, _, _, (.vs x), (.vs y), a, s, h => rt_ne x y a s.2 (by simpa [idx] using h)
end Var
abbrev M (αs : List Type) (β : Type) := Env αs → Option (β × Env αs)

/-! ### the state -/
/-- the entry: what never changes, the heap, the cells that may be changed -/
structure C0 where
  G0 : Hp
  H0 : Hp
  M0 : Addr → Prop
/-- the heap has grown: G and H by new cells, nothing changed -/
structure Al (G H G' H' : Hp) : Prop where
  g : Ex G G'
  gh : Ex G' H'
  h : Ex H H'
  new : ∀ a, H a ≠ none → G a = none → G' a = none
theorem Al.refl {G H : Hp} (e : Ex G H) : Al G H G H := ⟨Ex.refl _, e, Ex.refl _, fun _ _ h => h⟩
theorem Al.trans {G H G1 H1 G2 H2 : Hp} (a : Al G H G1 H1) (b : Al G1 H1 G2 H2) : Al G H G2 H2 :=
  ⟨a.g.trans b.g, b.gh, a.h.trans b.h, fun x hx gx => b.new x (by
    cases q : H x with
    | none => exact absurd q hx
    | some o => rw [a.h x o q]; simp) (a.new x hx gx)⟩
/-- a new object that is known -/
theorem Al.kn {G H : Hp} (e : Ex G H) {p : Addr} {o : HO} (hp : H p = none) : Al G H (upd G p o) (upd H p o) := by
  have gp : G p = none := by
    cases q : G p with
    | none => rfl
    | some u => rw [e p u q] at hp; cases hp
  refine ⟨Ex.new gp, fun a u h => ?_, Ex.new hp, fun a ha ga => ?_⟩
  · by_cases z : a = p
    · subst z; rw [upd_same] at h ⊢; exact h
    · rw [upd_ne z] at h ⊢; exact e a u h
  · have : a ≠ p := fun z => by subst z; exact ha hp
    rw [upd_ne this]; exact ga
/-- a new object of one's own -/
theorem Al.my {G H : Hp} (e : Ex G H) {p : Addr} {o : HO} (hp : H p = none) : Al G H G (upd H p o) :=
  ⟨Ex.refl _, e.trans (Ex.new hp), Ex.new hp, fun _ _ h => h⟩
structure Ok {K : Fr} (C : C0) {αs : List Type} (Γ : RTs K αs) (s : Env αs) (σ : L2.St) (G H : Hp) (o : Addr → Option Nat) : Prop where
  g : Ex C.G0 G
  gh : Ex G H
  new : ∀ a, ¬ C.M0 a → C.H0 a ≠ none → C.G0 a = none → G a = none
  fr : ∀ a ob, ¬ C.M0 a → C.H0 a = some ob → H a = some ob
  dom : ∀ a, C.H0 a ≠ none → H a ≠ none
  imm : ∀ a ob, C.H0 a = some ob → im ob = true → H a = some ob
  own : ∀ a, o a ≠ none → G a = none ∧ (∃ ob, H a = some ob ∧ im ob = false) ∧ (C.M0 a ∨ C.H0 a = none)
  len : σ.length = αs.length
  sl : ∀ (α : Type) (x : Var αs α) (a : α), x.get s = some a → ∃ v, σ[x.idx]? = some (some v) ∧ (x.rt Γ).rel G H v a (fun p => o p = some x.idx)
section
variable {K : Fr} {C : C0} {αs : List Type} {Γ : RTs K αs} {s : Env αs} {σ : L2.St} {G H G' H' : Hp} {o : Addr → Option Nat}
theorem Ok.al (k : Ok C Γ s σ G H o) (a : Al G H G' H') : Ok C Γ s σ G' H' o := by
  refine ⟨k.g.trans a.g, a.gh, fun b nm hb gb => a.new b (k.dom b hb) (k.new b nm hb gb), fun b ob nm hb => a.h b ob (k.fr b ob nm hb), fun b hb => ?_, fun b ob hb i => a.h b ob (k.imm b ob hb i), fun b hb => ?_, k.len, fun α x y hx => ?_⟩
  · cases q : H b with
    | none => exact absurd q (k.dom b hb)
    | some u => rw [a.h b u q]; simp
  · obtain ⟨h1, ⟨ob, h2, h3⟩, h4⟩ := k.own b hb
    exact ⟨a.new b (by rw [h2]; simp) h1, ⟨ob, a.h b ob h2, h3⟩, h4⟩
  · obtain ⟨v, e, r⟩ := k.sl α x y hx
    refine ⟨v, e, (x.rt Γ).grow r a.g fun b hb => ?_⟩
    obtain ⟨_, ⟨ob, h2, _⟩, _⟩ := k.own b (by rw [show o b = some x.idx from hb]; simp)
    rw [h2, a.h b ob h2]
open Classical in
noncomputable def setO (B : Addr → Prop) (i : Nat) (o : Addr → Option Nat) : Addr → Option Nat := fun a => if B a then some i else if o a = some i then none else o a
theorem setO_none {B : Addr → Prop} {i : Nat} {o : Addr → Option Nat} {a : Addr} (h1 : ¬ B a) (h2 : o a = none) : setO B i o a = none := by
  unfold setO
  rw [if_neg h1, if_neg (by rw [h2]; simp)]
  exact h2
/-- a slot is stored -/
theorem Ok.set' {α : Type} (k : Ok C Γ s σ G H o) (x : Var αs α) (R : RT K α) {v : V} {y : α} {B : Addr → Prop} (r : R.rel G H v y B)
    (hB : ∀ a, B a → o a = none ∧ G a = none ∧ (∃ ob, H a = some ob ∧ im ob = false) ∧ (C.M0 a ∨ C.H0 a = none)) :
    Ok C (x.setR R Γ) (x.set (some y) s) (σ.set x.idx (some v)) G H (setO B x.idx o) := by
  classical
  refine ⟨k.g, k.gh, k.new, k.fr, k.dom, k.imm, fun a ha => ?_, by rw [List.length_set]; exact k.len, Var.split x ?_ fun β z hz w hw => ?_⟩
  · by_cases hb : B a
    · exact (hB a hb).2
    · simp only [setO, hb, if_false] at ha
      by_cases hi : o a = some x.idx
      · simp [hi] at ha
      · simp only [hi, if_false] at ha
        exact k.own a ha
  · intro w hw
    rw [Var.get_set] at hw
    cases hw
    refine ⟨v, by rw [List.getElem?_set_self (by rw [k.len]; exact x.lt)], ?_⟩
    rw [Var.rt_set]
    exact R.wid r fun a hb => by simp [setO, hb]
  · rw [Var.get_ne x z _ _ hz] at hw
    obtain ⟨u, e, q⟩ := k.sl β z w hw
    refine ⟨u, by rw [List.getElem?_set_ne (Ne.symm hz)]; exact e, ?_⟩
    rw [Var.rt_ne x z _ _ hz]
    refine (z.rt Γ).wid q fun a ha => ?_
    have ha' : o a = some z.idx := ha
    have nb : ¬ B a := fun hb => by rw [(hB a hb).1] at ha'; cases ha'
    have ni : o a ≠ some x.idx := fun e => by rw [ha'] at e; exact hz (Option.some.inj e)
    show setO B x.idx o a = some z.idx
    unfold setO
    rw [if_neg nb, if_neg ni]; exact ha'
theorem Ok.set {α : Type} (k : Ok C Γ s σ G H o) (x : Var αs α) (R : RT K α) {v : V} {y : α} {B : Addr → Prop} (r : R.rel G H v y B)
    (hB : ∀ a, B a → o a = none ∧ G a = none ∧ (∃ ob, H a = some ob ∧ im ob = false) ∧ (C.M0 a ∨ C.H0 a = none)) :
    ∃ o', Ok C (x.setR R Γ) (x.set (some y) s) (σ.set x.idx (some v)) G H o' := ⟨_, k.set' x R r hB⟩
/-- temporary cells -/
def Tmp (C : C0) (B : Addr → Prop) (G H : Hp) (o : Addr → Option Nat) : Prop := ∀ a, B a → o a = none ∧ G a = none ∧ (∃ ob, H a = some ob ∧ im ob = false) ∧ (C.M0 a ∨ C.H0 a = none)
theorem tmp0 {C : C0} {G H : Hp} {o : Addr → Option Nat} : Tmp C (fun _ => False) G H o := fun _ h => h.elim
/-- what is not of its own is as it was -/
def Kp (Γ : RTs K αs) (s s' : Env αs) : Prop := ∀ (α : Type) (x : Var αs α), (x.rt Γ).fix = true → x.get s' = x.get s
theorem Kp.refl : Kp Γ s s := fun _ _ _ => rfl
theorem Kp.trans {s1 s2 : Env αs} (a : Kp Γ s s1) (b : Kp Γ s1 s2) : Kp Γ s s2 := fun α x h => (b α x h).trans (a α x h)
end
/-- the judgement for an expression -/
def XE (X : Cx) {αs : List Type} (Γ : RTs X.K αs) (e : Expr) {β : Type} (R : RT X.K β) (m : M αs β) : Prop :=
  ∀ (C : C0) (s : Env αs) (σ : L2.St) (G H : Hp) (o : Addr → Option Nat), Ok C Γ s σ G H o → ∀ (x : β) (s' : Env αs), m s = some (x, s') → ∀ Q : VK,
    (∀ (v : V) (G' H' : Hp) (o' : Addr → Option Nat) (B : Addr → Prop), Ok C Γ s' σ G' H' o' → Ex G G' → Kp Γ s s' → R.rel G' H' v x B → Tmp C B G' H' o' → Q v H') → wE X e σ H Q
/-- for a test -/
def XT (X : Cx) {αs : List Type} (Γ : RTs X.K αs) (e : Expr) (m : M αs Bool) : Prop :=
  ∀ (C : C0) (s : Env αs) (σ : L2.St) (G H : Hp) (o : Addr → Option Nat), Ok C Γ s σ G H o → ∀ (x : Bool) (s' : Env αs), m s = some (x, s') → ∀ Q : Bool → Hp → Prop,
    (∀ (G' H' : Hp) (o' : Addr → Option Nat), Ok C Γ s' σ G' H' o' → Ex G G' → Kp Γ s s' → Q x H') → wT X e σ H Q
def XW (X : Cx) {αs : List Type} (Γ : RTs X.K αs) (e : Expr) (m : M αs Bool) : Prop :=
  ∀ (C : C0) (s : Env αs) (σ : L2.St) (G H : Hp) (o : Addr → Option Nat), Ok C Γ s σ G H o → ∀ (x : Bool) (s' : Env αs), m s = some (x, s') → ∀ Q : Bool → Hp → Prop,
    (∀ (G' H' : Hp) (o' : Addr → Option Nat), Ok C Γ s' σ G' H' o' → Ex G G' → Kp Γ s s' → Q x H') → wW X e σ H Q
end Sm
/-! S3: expressions. -/
namespace Sm
open PySem PySem.Spec L2
open Enc (enc)

/-! ### programs over an environment -/
section
variable {αs : List Type} {α β γ δ : Type}
def mC (b : β) : M αs β := fun s => some (b, s)
def mV (x : Var αs α) : M αs α := fun s => (x.get s).bind fun a => some (a, s)
def m1 (f : α → Option β) (m : M αs α) : M αs β := fun s => (m s).bind fun p => (f p.1).bind fun b => some (b, p.2)
def m2 (f : α → β → Option γ) (m : M αs α) (n : M αs β) : M αs γ := fun s => (m s).bind fun p => (n p.2).bind fun q => (f p.1 q.1).bind fun c => some (c, q.2)
def m3 (f : α → β → γ → Option δ) (m : M αs α) (n : M αs β) (l : M αs γ) : M αs δ := fun s => (m s).bind fun p => (n p.2).bind fun q => (l q.2).bind fun r => (f p.1 q.1 r.1).bind fun c => some (c, r.2)
/-- if, on tests -/
def mIte (c : M αs Bool) (m n : M αs β) : M αs β := fun s => (c s).bind fun p => if p.1 = true then m p.2 else n p.2
theorem bindE {α β : Type} {o : Option α} {f : α → Option β} {b : β} (h : o.bind f = some b) : ∃ a, o = some a ∧ f a = some b := Option.bind_eq_some_iff.mp h
theorem m1E {f : α → Option β} {m : M αs α} {s s' : Env αs} {b : β} (h : m1 f m s = some (b, s')) : ∃ a, m s = some (a, s') ∧ f a = some b := by
  obtain ⟨⟨a, s1⟩, h1, h⟩ := bindE h
  obtain ⟨b', h2, h⟩ := bindE h
  cases h
  exact ⟨a, h1, h2⟩
theorem m2E {f : α → β → Option γ} {m : M αs α} {n : M αs β} {s s' : Env αs} {c : γ} (h : m2 f m n s = some (c, s')) : ∃ a s1 b, m s = some (a, s1) ∧ n s1 = some (b, s') ∧ f a b = some c := by
  obtain ⟨⟨a, s1⟩, h1, h⟩ := bindE h
  obtain ⟨⟨b, s2⟩, h2, h⟩ := bindE h
  obtain ⟨c', h3, h⟩ := bindE h
  cases h
  exact ⟨a, s1, b, h1, h2, h3⟩
theorem m3E {f : α → β → γ → Option δ} {m : M αs α} {n : M αs β} {l : M αs γ} {s s' : Env αs} {d : δ} (h : m3 f m n l s = some (d, s')) : ∃ a s1 b s2 c, m s = some (a, s1) ∧ n s1 = some (b, s2) ∧ l s2 = some (c, s') ∧ f a b c = some d := by
  obtain ⟨⟨a, s1⟩, h1, h⟩ := bindE h
  obtain ⟨⟨b, s2⟩, h2, h⟩ := bindE h
  obtain ⟨⟨c, s3⟩, h3, h⟩ := bindE h
  obtain ⟨d', h4, h⟩ := bindE h
  cases h
  exact ⟨a, s1, b, s2, c, h1, h2, h3, h4⟩
end

/-- new cells of one's own -/
def NewB (G H G' H' : Hp) (B : Addr → Prop) : Prop := ∀ a, B a → H a = none ∧ G' a = none ∧ ∃ ob, H' a = some ob ∧ im ob = false
theorem newB0 {G H G' H' : Hp} : NewB G H G' H' fun _ => False := fun _ h => h.elim
section
variable {X : Cx} {αs : List Type} {Γ : RTs X.K αs} {α β γ : Type} {e a b c : Expr} {R : RT X.K β}
theorem NewB.tmp {C : C0} {s : Env αs} {σ : L2.St} {G H G' H' : Hp} {o : Addr → Option Nat} {B : Addr → Prop} (k : Ok C Γ s σ G H o) (n : NewB G H G' H' B) : Tmp C B G' H' o := fun x hx => by
  obtain ⟨h1, h2, h3⟩ := n x hx
  refine ⟨?_, h2, h3, .inr ?_⟩
  · cases q : o x with
    | none => rfl
    | some i =>
      obtain ⟨_, ⟨ob, h, _⟩, _⟩ := k.own x (by rw [q]; simp)
      rw [h1] at h; cases h
  · cases q : C.H0 x with
    | none => rfl
    | some i => exact absurd h1 (k.dom x (by rw [q]; simp))
/-- leaf: nothing evaluated -/
theorem XE.leaf {t : TE} {z : β} (hpe : PE X e t) (hr : ∀ (σ : L2.St) (G H : Hp) (Q : VK), Ex G H → (∀ w G' H' B, Al G H G' H' → R.rel G' H' w z B → NewB G H G' H' B → Q w H') → t σ H Q) : XE X Γ e R (mC z) := by
  intro C s σ G H o k x s' hm Q q
  cases hm
  exact wE_of hpe (hr σ G H Q k.gh fun w G2 H2 B2 al r2 nb => q w G2 H2 o B2 (k.al al) al.g .refl r2 (nb.tmp k))
theorem XE.un {Ra : RT X.K α} {ma : M αs α} {r : V → Hp → VK → Prop} {f : α → Option β} (hpe : PE X e (fun σ H Q => wE X a σ H fun v H1 => r v H1 Q)) (ha : XE X Γ a Ra ma) (hc : Ra.fix = true)
    (hr : ∀ (G H : Hp) (v : V) (x : α) (z : β) (Q : VK), Ex G H → Ra.shr G v x → f x = some z → (∀ w G' H' B, Al G H G' H' → R.rel G' H' w z B → NewB G H G' H' B → Q w H') → r v H Q) : XE X Γ e R (m1 f ma) := by
  intro C s σ G H o k z s' hm Q q
  obtain ⟨x, h1, h2⟩ := m1E hm
  refine wE_of hpe ?_
  show wE X a σ H (fun v H1 => r v H1 Q)
  refine ha C s σ G H o k x s' h1 _ fun v G1 H1 o1 B k1 g1 kp r1 t1 => ?_
  exact hr G1 H1 v x z Q k1.gh ((cpy_of hc _ _ _ _ _).mp r1) h2 fun w G2 H2 B2 al r2 nb => q w G2 H2 o1 B2 (k1.al al) (g1.trans al.g) kp r2 (nb.tmp k1)
theorem XE.bin {Ra : RT X.K α} {Rb : RT X.K γ} {ma : M αs α} {mb : M αs γ} {r : V → V → Hp → VK → Prop} {f : α → γ → Option β} (hpe : PE X e (fun σ H Q => wE X a σ H fun v H1 => wE X b σ H1 fun u H2 => r v u H2 Q)) (ha : XE X Γ a Ra ma) (hb : XE X Γ b Rb mb)
    (hca : Ra.fix = true) (hcb : Rb.fix = true)
    (hr : ∀ (G H : Hp) (v u : V) (x : α) (y : γ) (z : β) (Q : VK), Ex G H → Ra.shr G v x → Rb.shr G u y → f x y = some z → (∀ w G' H' B, Al G H G' H' → R.rel G' H' w z B → NewB G H G' H' B → Q w H') → r v u H Q) : XE X Γ e R (m2 f ma mb) := by
  intro C s σ G H o k z s' hm Q q
  obtain ⟨x, s1, y, h1, h2, h3⟩ := m2E hm
  refine wE_of hpe ?_
  show wE X a σ H (fun v H1 => wE X b σ H1 fun u H2 => r v u H2 Q)
  refine ha C s σ G H o k x s1 h1 _ fun v G1 H1 o1 B k1 g1 kp r1 t1 => ?_
  refine hb C s1 σ G1 H1 o1 k1 y s' h2 _ fun u G2 H2 o2 B' k2 g2 kp2 r2 t2 => ?_
  exact hr G2 H2 v u x y z Q k2.gh (Ra.smono ((cpy_of hca _ _ _ _ _).mp r1) g2) ((cpy_of hcb _ _ _ _ _).mp r2) h3 fun w G3 H3 B3 al r3 nb => q w G3 H3 o2 B3 (k2.al al) ((g1.trans g2).trans al.g) (kp.trans kp2) r3 (nb.tmp k2)
theorem XE.tri {Ra : RT X.K α} {Rb : RT X.K γ} {δ : Type} {Rd : RT X.K δ} {ma : M αs α} {mb : M αs γ} {md : M αs δ} {d : Expr} {r : V → V → V → Hp → VK → Prop} {f : α → γ → δ → Option β}
    (hpe : PE X e (fun σ H Q => wE X a σ H fun v H1 => wE X b σ H1 fun u H2 => wE X d σ H2 fun w H3 => r v u w H3 Q)) (ha : XE X Γ a Ra ma) (hb : XE X Γ b Rb mb) (hd : XE X Γ d Rd md)
    (hca : Ra.fix = true) (hcb : Rb.fix = true) (hcd : Rd.fix = true)
    (hr : ∀ (G H : Hp) (v u t : V) (x : α) (y : γ) (w : δ) (z : β) (Q : VK), Ex G H → Ra.shr G v x → Rb.shr G u y → Rd.shr G t w → f x y w = some z → (∀ w G' H' B, Al G H G' H' → R.rel G' H' w z B → NewB G H G' H' B → Q w H') → r v u t H Q) : XE X Γ e R (m3 f ma mb md) := by
  intro C s σ G H o k z s' hm Q q
  obtain ⟨x, s1, y, s2, w, h1, h2, h3, h4⟩ := m3E hm
  refine wE_of hpe ?_
  show wE X a σ H (fun v H1 => wE X b σ H1 fun u H2 => wE X d σ H2 fun w H3 => r v u w H3 Q)
  refine ha C s σ G H o k x s1 h1 _ fun v G1 H1 o1 B k1 g1 kp r1 t1 => ?_
  refine hb C s1 σ G1 H1 o1 k1 y s2 h2 _ fun u G2 H2 o2 B' k2 g2 kp2 r2 t2 => ?_
  refine hd C s2 σ G2 H2 o2 k2 w s' h3 _ fun t G3 H3 o3 B'' k3 g3 kp3 r3 t3 => ?_
  exact hr G3 H3 v u t x y w z Q k3.gh (Ra.smono (Ra.smono ((cpy_of hca _ _ _ _ _).mp r1) g2) g3) (Rb.smono ((cpy_of hcb _ _ _ _ _).mp r2) g3) ((cpy_of hcd _ _ _ _ _).mp r3) h4
    fun w G3 H3 B3 al r3 nb => q w G3 H3 o3 B3 (k3.al al) (((g1.trans g2).trans g3).trans al.g) ((kp.trans kp2).trans kp3) r3 (nb.tmp k3)
/-- a name whose slot may be shared -/
theorem XE.var {x : Var αs β} {n : Str} {pos : Pos} (hpe : PE X (.Name n pos) (tVar x.idx)) (hc : (x.rt Γ).fix = true) (hR : R.fix = true) (hs : ∀ G v y, (x.rt Γ).shr G v y → R.shr G v y) : XE X Γ (.Name n pos) R (mV x) := by
  intro C s σ G H o k z s' hm Q q
  obtain ⟨y, h1, h⟩ := bindE hm
  cases h
  obtain ⟨v, e, r⟩ := k.sl β x z h1
  exact wE_of hpe ⟨v, e, q v G H o (fun _ => False) k (Ex.refl _) .refl ((cpy_of hR _ _ _ _ _).mpr (hs _ _ _ ((cpy_of hc _ _ _ _ _).mp r))) tmp0⟩
/-- one's own value given away to be shared -/
theorem XE.freeze {R0 : RT X.K β} {m : M αs β} (h : XE X Γ e R0 m) : XE X Γ e (RT.sh R0) m := by
  classical
  intro C s σ G H o k z s' hm Q q
  refine h C s σ G H o k z s' hm Q fun v G1 H1 o1 B k1 g1 kp r1 t1 => ?_
  have ex : Ex G1 (fun a => if B a then H1 a else G1 a) := fun a ob e => by
    by_cases hb : B a
    · have := (t1 a hb).2.1; rw [this] at e; cases e
    · simp [hb, e]
  refine q v (fun a => if B a then H1 a else G1 a) H1 o1 (fun _ => False) ?_ (g1.trans ex) kp (R0.view r1 ex fun a ob hb e => by simp [hb, e]) tmp0
  refine ⟨k1.g.trans ex, fun a ob e => ?_, fun a nm h0 g0 => ?_, k1.fr, k1.dom, k1.imm, fun a ha => ?_, k1.len, fun α x y hx => ?_⟩
  · by_cases hb : B a
    · simpa [hb] using e
    · simp only [hb, if_false] at e
      exact k1.gh a ob e
  · have nb : ¬ B a := fun hb => by
      rcases (t1 a hb).2.2.2 with z | z
      · exact nm z
      · exact h0 z
    simp only [nb, if_false]
    exact k1.new a nm h0 g0
  · obtain ⟨h1, h2, h3⟩ := k1.own a ha
    have nb : ¬ B a := fun hb => ha (t1 a hb).1
    exact ⟨by simp [nb, h1], h2, h3⟩
  · obtain ⟨u, e, r⟩ := k1.sl α x y hx
    exact ⟨u, e, (x.rt Γ).grow r ex fun _ _ => rfl⟩
/-- what is owned at x seen as shared for a while -/
theorem Ok.borrow {C : C0} {s : Env αs} {σ : L2.St} {G H : Hp} {o : Addr → Option Nat} (k : Ok C Γ s σ G H o) {α : Type} (x : Var αs α) :
    ∃ C' G1 o1, Ok C' (x.setR (RT.sh (x.rt Γ)) Γ) s σ G1 H o1 ∧ Ex G G1 ∧ ∀ s' G' H' o', Ok C' (x.setR (RT.sh (x.rt Γ)) Γ) s' σ G' H' o' → Ex G1 G' → Kp (x.setR (RT.sh (x.rt Γ)) Γ) s s' →
      ∃ G2 o2, Ok C Γ s' σ G2 H' o2 ∧ Ex G G2 ∧ ExI G' G2 ∧ Kp Γ s s' ∧ ∀ B, Tmp C' B G' H' o' → Tmp C B G2 H' o2 := by
  classical
  have SG : ∀ a, o a = some x.idx → G a = none := fun a h => (k.own a (by rw [h]; simp)).1
  have ex1 : Ex G (fun a => if o a = some x.idx then H a else G a) := fun a ob e => by
    by_cases h : o a = some x.idx
    · rw [SG a h] at e; cases e
    · simp only [h, if_false]; exact e
  refine ⟨⟨fun a => if o a = some x.idx then H a else G a, H, fun a => o a ≠ none ∧ o a ≠ some x.idx⟩, fun a => if o a = some x.idx then H a else G a, fun a => if o a = some x.idx then none else o a, ?_, ex1, ?_⟩
  · refine ⟨Ex.refl _, fun a ob e => ?_, fun _ _ _ h => h, fun _ _ _ h => h, fun _ h => h, fun _ _ h _ => h, fun a ha => ?_, k.len, Var.split x ?_ fun β y hy z hz => ?_⟩
    · by_cases h : o a = some x.idx
      · simpa [h] using e
      · simp only [h, if_false] at e; exact k.gh a ob e
    · by_cases h : o a = some x.idx
      · simp [h] at ha
      · simp only [h, if_false] at ha
        obtain ⟨h1, h2, h3⟩ := k.own a ha
        exact ⟨by simp only [h, if_false]; exact h1, h2, .inl ⟨ha, h⟩⟩
    · intro z hz
      obtain ⟨v, e, r⟩ := k.sl α x z hz
      refine ⟨v, e, ?_⟩
      rw [Var.rt_set]
      exact (x.rt Γ).view r ex1 fun a ob ha hb => by
        have ha' : o a = some x.idx := ha
        simp only [ha', if_true]; exact hb
    · obtain ⟨v, e, r⟩ := k.sl β y z hz
      refine ⟨v, e, ?_⟩
      rw [Var.rt_ne x y _ _ hy]
      refine (y.rt Γ).wid ((y.rt Γ).grow r ex1 fun _ _ => rfl) fun a ha => ?_
      have ha' : o a = some y.idx := ha
      show (if o a = some x.idx then none else o a) = some y.idx
      rw [if_neg (by rw [ha']; exact fun e => hy (Option.some.inj e))]
      exact ha'
  · intro s' G' H' o' k' e' kp
    have S1 : ∀ a, o a = some x.idx → ∃ ob, H a = some ob ∧ H' a = some ob ∧ G' a = some ob ∧ im ob = false := fun a h => by
      obtain ⟨_, ⟨ob, h2, h3⟩, _⟩ := k.own a (by rw [h]; simp)
      exact ⟨ob, h2, k'.fr a ob (fun z => z.2 h) h2, e' a ob (by simp only [h, if_true]; exact h2), h3⟩
    have exg : Ex G (fun a => if o a = some x.idx then none else G' a) := fun a ob e => by
      have h : o a ≠ some x.idx := fun h => by rw [SG a h] at e; cases e
      simp only [h, if_false]
      exact e' a ob (ex1 a ob e)
    have exi : ExI G' (fun a => if o a = some x.idx then none else G' a) := fun a ob e i => by
      have h : o a ≠ some x.idx := fun h => by
        obtain ⟨ob', _, _, h3, h4⟩ := S1 a h
        rw [h3] at e; cases e; rw [h4] at i; cases i
      simp only [h, if_false]; exact e
    have nS : ∀ a i, o' a = some i → o a ≠ some x.idx := fun a i h z => by
      obtain ⟨ob', _, _, h3, _⟩ := S1 a z
      have := (k'.own a (by rw [h]; simp)).1
      rw [this] at h3; cases h3
    have back : ∀ a, ((o a ≠ none ∧ o a ≠ some x.idx) ∨ H a = none) → C.M0 a ∨ C.H0 a = none := fun a h => by
      rcases h with h | h
      · exact (k.own a h.1).2.2
      · right
        cases q : C.H0 a with
        | none => rfl
        | some u => exact absurd h (k.dom a (by rw [q]; simp))
    have kpx : x.get s' = x.get s := kp α x (by rw [Var.rt_set]; rfl)
    have kpy : ∀ (β : Type) (y : Var αs β), y.idx ≠ x.idx → (y.rt Γ).fix = true → y.get s' = y.get s := fun β y hy hf => kp β y (by rw [Var.rt_ne x y _ _ hy]; exact hf)
    refine ⟨fun a => if o a = some x.idx then none else G' a, fun a => if o a = some x.idx then some x.idx else o' a, ?_, exg, exi, Var.split x (fun _ => kpx) kpy, fun B tB a hb => ?_⟩
    · refine ⟨k.g.trans exg, fun a ob e => ?_, fun a nm h0 g0 => ?_, fun a ob nm h0 => ?_, fun a h0 => ?_, fun a ob h0 i => k'.imm a ob (k.imm a ob h0 i) i, fun a ha => ?_, k'.len, Var.split x ?_ fun β y hy z hz => ?_⟩
      · by_cases h : o a = some x.idx
        · simp [h] at e
        · simp only [h, if_false] at e; exact k'.gh a ob e
      · by_cases h : o a = some x.idx
        · simp [h]
        · simp only [h, if_false]
          refine k'.new a (fun z => ?_) (k.dom a h0) (by simp only [h, if_false]; exact k.new a nm h0 g0)
          rcases (k.own a z.1).2.2 with q | q
          · exact nm q
          · exact h0 q
      · refine k'.fr a ob (fun z => ?_) (k.fr a ob nm h0)
        rcases (k.own a z.1).2.2 with q | q
        · exact nm q
        · rw [q] at h0; cases h0
      · exact k'.dom a (k.dom a h0)
      · by_cases h : o a = some x.idx
        · obtain ⟨ob, _, h2, _, h4⟩ := S1 a h
          exact ⟨by simp [h], ⟨ob, h2, h4⟩, (k.own a (by rw [h]; simp)).2.2⟩
        · simp only [h, if_false] at ha
          obtain ⟨h1, h2, h3⟩ := k'.own a ha
          exact ⟨by simp only [h, if_false]; exact h1, h2, back a h3⟩
      · intro z hz
        rw [kpx] at hz
        obtain ⟨v, e, r⟩ := k.sl α x z hz
        refine ⟨v, e, (x.rt Γ).wid ((x.rt Γ).grow r exg fun a ha => ?_) fun a ha => ?_⟩
        · obtain ⟨ob, h1, h2, _⟩ := S1 a ha
          rw [h1, h2]
        · have ha' : o a = some x.idx := ha
          simp [ha']
      · cases hf : (y.rt Γ).fix with
        | true =>
          rw [kpy β y hy hf] at hz
          obtain ⟨v, e, r⟩ := k.sl β y z hz
          exact ⟨v, e, (cpy_of hf _ _ _ _ _).mpr ((y.rt Γ).smono ((cpy_of hf _ _ _ _ _).mp r) exg)⟩
        | false =>
          obtain ⟨v, e, r⟩ := k'.sl β y z hz
          rw [Var.rt_ne x y _ _ hy] at r
          refine ⟨v, e, (y.rt Γ).wid (lin_of hf _ _ _ _ _ _ r exi) fun a ha => ?_⟩
          have ha' : o' a = some y.idx := ha
          show (if o a = some x.idx then some x.idx else o' a) = some y.idx
          rw [if_neg (nS a _ ha')]; exact ha'
    · obtain ⟨h1, h2, h3, h4⟩ := tB a hb
      have h : o a ≠ some x.idx := fun h => by
        obtain ⟨ob', _, _, h3, _⟩ := S1 a h
        rw [h2] at h3; cases h3
      exact ⟨by simp only [h, if_false]; exact h1, by simp only [h, if_false]; exact h2, h3, back a h4⟩
theorem XE.borrow {m : M αs β} {α : Type} (x : Var αs α) (h : XE X (x.setR (RT.sh (x.rt Γ)) Γ) e R m) (hR : Lin R) : XE X Γ e R m := by
  intro C s σ G H o k z s' hm Q q
  obtain ⟨C', G1, o1, k1, e1, back⟩ := k.borrow x
  refine h C' s σ G1 H o1 k1 z s' hm Q fun v G' H' o' B k' e' kp r t => ?_
  obtain ⟨G2, o2, k2, e2, ei, kp2, tb⟩ := back s' G' H' o' k' e' kp
  exact q v G2 H' o2 B k2 e2 kp2 (hR _ _ _ _ _ _ r ei) (tb B t)
theorem XT.borrow {m : M αs Bool} {α : Type} (x : Var αs α) (h : XT X (x.setR (RT.sh (x.rt Γ)) Γ) e m) : XT X Γ e m := by
  intro C s σ G H o k z s' hm Q q
  obtain ⟨C', G1, o1, k1, e1, back⟩ := k.borrow x
  refine h C' s σ G1 H o1 k1 z s' hm Q fun G' H' o' k' e' kp => ?_
  obtain ⟨G2, o2, k2, e2, ei, kp2, tb⟩ := back s' G' H' o' k' e' kp
  exact q G2 H' o2 k2 e2 kp2
end
end Sm
/-! S4: the single forms of expressions. -/
namespace Sm
open PySem PySem.Spec L2
open Enc (enc)

/-! ### the programs' own functions -/
/-- a function that nobody unfolds -/
noncomputable def Seal {α : Type} (a : α) : { b : α // b = a } := Classical.choice ⟨⟨a, rfl⟩⟩
def iadd (i j : Int) : Option Int := some (i + j)
def isub (i j : Int) : Option Int := some (i - j)
noncomputable def imul : Int → Int → Option Int := (Seal fun (i j : Int) => if (-(2 ^ 64) < i ∧ i < 2 ^ 64) ∨ (-(2 ^ 64) < j ∧ j < 2 ^ 64) then some (i * j) else none).1
theorem imul_eq (i j : Int) : imul i j = if (-(2 ^ 64) < i ∧ i < 2 ^ 64) ∨ (-(2 ^ 64) < j ∧ j < 2 ^ 64) then some (i * j) else none := by unfold imul; rw [(Seal _).2]
noncomputable def imod : Int → Int → Option Int := (Seal fun (i j : Int) => if 0 < j then some (i % j) else none).1
theorem imod_eq (i j : Int) : imod i j = if 0 < j then some (i % j) else none := by unfold imod; rw [(Seal _).2]
noncomputable def idiv : Int → Int → Option Int := (Seal fun (i j : Int) => if 0 < j ∧ j < 1073741824 then some (i / j) else none).1
theorem idiv_eq (i j : Int) : idiv i j = if 0 < j ∧ j < 1073741824 then some (i / j) else none := by unfold idiv; rw [(Seal _).2]
noncomputable def ipow : Int → Int → Option Int := (Seal fun (i j : Int) => if 0 ≤ j ∧ j ≤ 1000000 ∧ i.natAbs < 2 ^ 64 then some (i ^ j.toNat) else none).1
theorem ipow_eq (i j : Int) : ipow i j = if 0 ≤ j ∧ j ≤ 1000000 ∧ i.natAbs < 2 ^ 64 then some (i ^ j.toNat) else none := by unfold ipow; rw [(Seal _).2]
def iband (i j : Int) : Option Int := some (Builtin.bitAnd i j)
def ineg (i : Int) : Option Int := some (-i)
noncomputable def ilt : Int → Int → Option Bool := (Seal fun (i j : Int) => some (decide (i < j))).1
theorem ilt_eq (i j : Int) : ilt i j = some (decide (i < j)) := by unfold ilt; rw [(Seal _).2]
noncomputable def ile : Int → Int → Option Bool := (Seal fun (i j : Int) => some (decide (i ≤ j))).1
theorem ile_eq (i j : Int) : ile i j = some (decide (i ≤ j)) := by unfold ile; rw [(Seal _).2]
noncomputable def igt : Int → Int → Option Bool := (Seal fun (i j : Int) => some (decide (j < i))).1
theorem igt_eq (i j : Int) : igt i j = some (decide (j < i)) := by unfold igt; rw [(Seal _).2]
noncomputable def ige : Int → Int → Option Bool := (Seal fun (i j : Int) => some (decide (j ≤ i))).1
theorem ige_eq (i j : Int) : ige i j = some (decide (j ≤ i)) := by unfold ige; rw [(Seal _).2]
def ieq {α : Type} [DecidableEq α] (x y : α) : Option Bool := some (decide (x = y))
def ine {α : Type} [DecidableEq α] (x y : α) : Option Bool := some (!decide (x = y))
def isin {α : Type} [DecidableEq α] (x : α) (xs : List α) : Option Bool := some (decide (x ∈ xs))
def notin {α : Type} [DecidableEq α] (x : α) (xs : List α) : Option Bool := some (!decide (x ∈ xs))
noncomputable def idx {α : Type} : List α → Int → Option α := (Seal fun (xs : List α) (i : Int) => atI xs i).1
theorem idx_eq {α : Type} (xs : List α) (i : Int) : idx xs i = atI xs i := by unfold idx; rw [(Seal _).2]
def ilen {α : Type} (xs : List α) : Option Int := some (xs.length : Int)
def idt {α : Type} (x : α) : Option α := some x
def fst' {α β : Type} (x : α × β) : Option α := some x.1
def snd' {α β : Type} (x : α × β) : Option β := some x.2
def pair {α β : Type} (x : α) (y : β) : Option (α × β) := some (x, y)
def trip {α β γ : Type} (x : α) (y : β) (z : γ) : Option (T3 α β γ) := some ⟨x, y, z⟩
def iabs (i : Int) : Option Int := some (if i < 0 then -i else i)
def imax (i j : Int) : Option Int := some (if j > i then j else i)
def imin (i j : Int) : Option Int := some (if j < i then j else i)
def bnot (b : Bool) : Option Bool := some (!b)
def copyl {α : Type} (xs : List α) : Option (List α) := some xs
def indexOf {α : Type} [DecidableEq α] (xs : List α) (x : α) : Option Int := Option.map (fun (n : Nat) => (n : Int)) (xs.findIdx? (· = x))
def cnt {α : Type} [DecidableEq α] (xs : List α) (x : α) : Option Int := some ((xs.filter (· = x)).length : Int)

section
variable {X : Cx} {αs : List Type} {Γ : RTs X.K αs} {α β γ : Type} {e a b c : Expr} {pos : Pos}
abbrev tI (X : Cx) : RT X.K Int := RT.dat X.K Int
abbrev tB' (X : Cx) : RT X.K Bool := RT.dat X.K Bool
theorem dq_int {K : Fr} {G : Hp} {v : V} {i : Int} (h : Dq K G v (enc i)) : v = .int i := by
  have h' : Dq K G v (.int i) := h
  cases h'; rfl
theorem dq_bl {K : Fr} {G : Hp} {v : V} {i : Bool} (h : Dq K G v (enc i)) : v = .bl i := by
  have h' : Dq K G v (.bool i) := h
  cases h'; rfl
theorem dq_str {K : Fr} {G : Hp} {v : V} {i : Str} (h : Dq K G v (enc i)) : v = .str i := by
  have h' : Dq K G v (.str i) := h
  cases h'; rfl
theorem dq_list {K : Fr} {G : Hp} {v : V} [Enc α] {xs : List α} (h : Dq K G v (enc xs)) : ∃ p vs, v = .ref p ∧ G p = some (.lst vs) ∧ All2 (fun v x => Dq K G v (enc x)) vs xs := by
  have h' : Dq K G v (.list (xs.map enc)) := h
  cases h' with
  | lst h1 k => exact ⟨_, _, rfl, h1, dqAll_all2.mp k⟩
theorem dq_pair {K : Fr} {G : Hp} {v : V} [Enc α] [Enc β] {x : α × β} (h : Dq K G v (enc x)) : ∃ p a b, v = .ref p ∧ SqT K G p [a, b] ∧ Dq K G a (enc x.1) ∧ Dq K G b (enc x.2) := by
  have h' : Dq K G v (.tuple [enc x.1, enc x.2]) := h
  cases h' with
  | tup h k =>
    cases k with
    | cons k1 k =>
      cases k with
      | cons k2 k => cases k; exact ⟨_, _, _, rfl, h, k1, k2⟩
theorem dq_t3 {K : Fr} {G : Hp} {v : V} [Enc α] [Enc β] [Enc γ] {x : T3 α β γ} (h : Dq K G v (enc x)) : ∃ p a b c, v = .ref p ∧ SqT K G p [a, b, c] ∧ Dq K G a (enc x.a) ∧ Dq K G b (enc x.b) ∧ Dq K G c (enc x.c) := by
  have h' : Dq K G v (.tuple [enc x.a, enc x.b, enc x.c]) := h
  cases h' with
  | tup h k =>
    cases k with
    | cons k1 k =>
      cases k with
      | cons k2 k =>
        cases k with
        | cons k3 k => cases k; exact ⟨_, _, _, _, rfl, h, k1, k2, k3⟩
/-- the value may be shared at once: nothing new -/
theorem here {Q : VK} [Enc β] {G H : Hp} {w : V} {z : β} (e : Ex G H) (h : Dq X.K G w (enc z)) (q : ∀ w G' H' B, Al G H G' H' → (RT.dat X.K β).rel G' H' w z B → NewB G H G' H' B → Q w H') : Q w H :=
  q w G H (fun _ => False) (.refl e) h newB0

/-! ### constants -/
theorem XE.int {i : Int} {j} : XE X Γ (.Constant (.int i) j pos) (RT.dat X.K Int) (mC i) := .leaf pe_int fun _ G H Q e q => here (z := i) e (.int i) q
theorem XE.bl {i : Bool} {j} : XE X Γ (.Constant (.bool i) j pos) (RT.dat X.K Bool) (mC i) := .leaf pe_bl fun _ G H Q e q => here (z := i) e (.bl i) q
theorem XE.str {i : Str} {j} : XE X Γ (.Constant (.str i) j pos) (RT.dat X.K Str) (mC i) := .leaf pe_str fun _ G H Q e q => here (z := i) e (.str i) q
theorem XE.non {j} : XE X Γ (.Constant .none j pos) (RT.dat X.K Unit) (mC ()) := .leaf pe_non fun _ G H Q e q => here (z := ()) e .non q
theorem XE.name {x : Var αs β} {n : Str} {R : RT X.K β} (hpe : PE X (.Name n pos) (tVar x.idx)) (hr : x.rt Γ = R) (hc : R.fix = true) : XE X Γ (.Name n pos) R (mV x) :=
  .var hpe (by rw [hr]; exact hc) hc fun G v y h => by rw [hr] at h; exact h

/-! ### arithmetic -/
section
variable {ma mb : M αs Int} {op : Operator}
theorem XE.opI0 {g : Int → Int → Int} {f : Int → Int → Option Int} (ho : OpR X (binaryOp op) (rI0 fun i j => .int (g i j))) (hf : ∀ i j z, f i j = some z → z = g i j) (ha : XE X Γ a (RT.dat X.K Int) ma) (hb : XE X Γ b (RT.dat X.K Int) mb) : XE X Γ (.BinOp a op b pos) (RT.dat X.K Int) (m2 f ma mb) :=
  .bin (r := rI0 fun i j => .int (g i j)) (pe_op ho pe_w pe_w) ha hb rfl rfl fun G H v u x y z Q e hx hy hz q => by
    cases dq_int hx; cases dq_int hy; cases hf _ _ _ hz
    exact ⟨x, y, rfl, rfl, here (z := g x y) e (.int _) q⟩
theorem XE.opI {Cn : Int → Int → Prop} {g : Int → Int → Int} {f : Int → Int → Option Int} (ho : OpR X (binaryOp op) (rI Cn fun i j => .int (g i j))) (hf : ∀ i j z, f i j = some z → Cn i j ∧ z = g i j) (ha : XE X Γ a (RT.dat X.K Int) ma) (hb : XE X Γ b (RT.dat X.K Int) mb) : XE X Γ (.BinOp a op b pos) (RT.dat X.K Int) (m2 f ma mb) :=
  .bin (r := rI Cn fun i j => .int (g i j)) (pe_op ho pe_w pe_w) ha hb rfl rfl fun G H v u x y z Q e hx hy hz q => by
    cases dq_int hx; cases dq_int hy
    obtain ⟨hc, rfl⟩ := hf _ _ _ hz
    exact ⟨x, y, rfl, rfl, hc, here (z := g x y) e (.int _) q⟩
theorem XE.add (ha : XE X Γ a (RT.dat X.K Int) ma) (hb : XE X Γ b (RT.dat X.K Int) mb) : XE X Γ (.BinOp a .Add b pos) (RT.dat X.K Int) (m2 iadd ma mb) := .opI0 op_add (fun _ _ _ h => (Option.some.inj h).symm) ha hb
theorem XE.sub (ha : XE X Γ a (RT.dat X.K Int) ma) (hb : XE X Γ b (RT.dat X.K Int) mb) : XE X Γ (.BinOp a .Sub b pos) (RT.dat X.K Int) (m2 isub ma mb) := .opI0 op_sub (fun _ _ _ h => (Option.some.inj h).symm) ha hb
theorem XE.band (ha : XE X Γ a (RT.dat X.K Int) ma) (hb : XE X Γ b (RT.dat X.K Int) mb) : XE X Γ (.BinOp a .BitAnd b pos) (RT.dat X.K Int) (m2 iband ma mb) := .opI0 op_and (fun _ _ _ h => (Option.some.inj h).symm) ha hb
theorem ite_some {c : Prop} [Decidable c] {α : Type} {a z : α} (h : (if c then some a else none) = some z) : c ∧ z = a := by
  by_cases hc : c
  · rw [if_pos hc] at h; exact ⟨hc, (Option.some.inj h).symm⟩
  · rw [if_neg hc] at h; cases h
theorem XE.mul (ha : XE X Γ a (RT.dat X.K Int) ma) (hb : XE X Γ b (RT.dat X.K Int) mb) : XE X Γ (.BinOp a .Mult b pos) (RT.dat X.K Int) (m2 imul ma mb) := .opI op_mul (fun _ _ _ h => by rw [imul_eq] at h; have t := ite_some h; exact t) ha hb
theorem XE.mod (ha : XE X Γ a (RT.dat X.K Int) ma) (hb : XE X Γ b (RT.dat X.K Int) mb) : XE X Γ (.BinOp a .Mod b pos) (RT.dat X.K Int) (m2 imod ma mb) := .opI op_mod (fun _ _ _ h => by rw [imod_eq] at h; have t := ite_some h; exact t) ha hb
theorem XE.fdiv (ha : XE X Γ a (RT.dat X.K Int) ma) (hb : XE X Γ b (RT.dat X.K Int) mb) : XE X Γ (.BinOp a .FloorDiv b pos) (RT.dat X.K Int) (m2 idiv ma mb) := .opI op_fdiv (fun _ _ _ h => by rw [idiv_eq] at h; have t := ite_some h; exact t) ha hb
theorem XE.pow (ha : XE X Γ a (RT.dat X.K Int) ma) (hb : XE X Γ b (RT.dat X.K Int) mb) : XE X Γ (.BinOp a .Pow b pos) (RT.dat X.K Int) (m2 ipow ma mb) := .opI op_pow (fun _ _ _ h => by rw [ipow_eq] at h; have t := ite_some h; exact t) ha hb

end
/-! ### comparisons -/
/-- a comparison -/
def XC (X : Cx) {αs : List Type} (Γ : RTs X.K αs) (op : CmpOp) (a b : Expr) (m : M αs Bool) : Prop :=
  behindInMarks op b = false ∧ ∃ r : R2, OpR X (compareOp op) r ∧ ∀ (C : C0) (s : Env αs) (σ : L2.St) (G H : Hp) (o : Addr → Option Nat), Ok C Γ s σ G H o → ∀ (z : Bool) (s' : Env αs), m s = some (z, s') → ∀ Q : VK,
    (∀ (G' H' : Hp) (o' : Addr → Option Nat), Ok C Γ s' σ G' H' o' → Ex G G' → Kp Γ s s' → Q (.bl z) H') → tOp r (wE X a) (wE X b) σ H Q
theorem XC.bin {op : CmpOp} {Ra : RT X.K α} {Rb : RT X.K γ} {ma : M αs α} {mb : M αs γ} {r : R2} {f : α → γ → Option Bool} (ho : OpR X (compareOp op) r) (hm : behindInMarks op b = false) (ha : XE X Γ a Ra ma) (hb : XE X Γ b Rb mb)
    (hca : Ra.fix = true) (hcb : Rb.fix = true) (hr : ∀ (G H : Hp) (v u : V) (x : α) (y : γ) (z : Bool) (Q : VK), Ex G H → Ra.shr G v x → Rb.shr G u y → f x y = some z → Q (.bl z) H → r v u H Q) : XC X Γ op a b (m2 f ma mb) := by
  refine ⟨hm, r, ho, fun C s σ G H o k z s' hm Q q => ?_⟩
  obtain ⟨x, s1, y, h1, h2, h3⟩ := m2E hm
  refine ha C s σ G H o k x s1 h1 _ fun v G1 H1 o1 B k1 g1 kp r1 t1 => ?_
  refine hb C s1 σ G1 H1 o1 k1 y s' h2 _ fun u G2 H2 o2 B' k2 g2 kp2 r2 t2 => ?_
  exact hr G2 H2 v u x y z Q k2.gh (Ra.smono ((cpy_of hca _ _ _ _ _).mp r1) g2) ((cpy_of hcb _ _ _ _ _).mp r2) h3 (q G2 H2 o2 k2 (g1.trans g2) (kp.trans kp2))
theorem XE.ofC {m : M αs Bool} {op : CmpOp} (h : XC X Γ op a b m) : XE X Γ (.Compare a [op] [b] pos) (RT.dat X.K Bool) m := by
  obtain ⟨hb, r, ho, h⟩ := h
  intro C s σ G H o k z s' hm Q q
  exact wE_of (pe_cmpR ho pe_w pe_w hb) (h C s σ G H o k z s' hm Q fun G1 H1 o1 k1 g1 kp => q _ G1 H1 o1 (fun _ => False) k1 g1 kp (show Dq X.K G1 (.bl z) (.bool z) from .bl _) tmp0)
theorem XT.ofC {m : M αs Bool} {op : CmpOp} (h : XC X Γ op a b m) : XT X Γ (.Compare a [op] [b] pos) m := by
  obtain ⟨hb, r, ho, h⟩ := h
  intro C s σ G H o k z s' hm Q q
  exact wT_of (pt_cmpR ho pe_w pe_w hb) (h C s σ G H o k z s' hm _ fun G1 H1 o1 k1 g1 kp => ⟨z, rfl, q G1 H1 o1 k1 g1 kp⟩)
section
variable {ma mb : M αs Int}
theorem XC.cmpI {cop : CmpOp} {g : Int → Int → Bool} {f : Int → Int → Option Bool} (ho : OpR X (compareOp cop) (rI0 fun i j => .bl (g i j))) (hm : behindInMarks cop b = false) (hf : ∀ i j z, f i j = some z → z = g i j) (ha : XE X Γ a (RT.dat X.K Int) ma) (hb : XE X Γ b (RT.dat X.K Int) mb) :
    XC X Γ cop a b (m2 f ma mb) :=
  .bin (r := rI0 fun i j => .bl (g i j)) ho hm ha hb rfl rfl fun G H v u x y z Q e hx hy hz q => by
    cases dq_int hx; cases dq_int hy; cases hf _ _ _ hz
    exact ⟨x, y, rfl, rfl, q⟩
theorem XC.lt (ha : XE X Γ a (RT.dat X.K Int) ma) (hb : XE X Γ b (RT.dat X.K Int) mb) : XC X Γ .Lt a b (m2 ilt ma mb) := .cmpI op_lt (nobehind _ (by decide) (by decide)) (fun _ _ _ h => by rw [ilt_eq] at h; exact (Option.some.inj h).symm) ha hb
theorem XC.le (ha : XE X Γ a (RT.dat X.K Int) ma) (hb : XE X Γ b (RT.dat X.K Int) mb) : XC X Γ .LtE a b (m2 ile ma mb) := .cmpI op_le (nobehind _ (by decide) (by decide)) (fun _ _ _ h => by rw [ile_eq] at h; exact (Option.some.inj h).symm) ha hb
theorem XC.gt (ha : XE X Γ a (RT.dat X.K Int) ma) (hb : XE X Γ b (RT.dat X.K Int) mb) : XC X Γ .Gt a b (m2 igt ma mb) := .cmpI op_gt (nobehind _ (by decide) (by decide)) (fun _ _ _ h => by rw [igt_eq] at h; exact (Option.some.inj h).symm) ha hb
theorem XC.ge (ha : XE X Γ a (RT.dat X.K Int) ma) (hb : XE X Γ b (RT.dat X.K Int) mb) : XC X Γ .GtE a b (m2 ige ma mb) := .cmpI op_ge (nobehind _ (by decide) (by decide)) (fun _ _ _ h => by rw [ige_eq] at h; exact (Option.some.inj h).symm) ha hb
end
/-- what is compared deeply -/
theorem XC.eq [Enc α] [DecidableEq α] [EqE α] [Lay α] {ma mb : M αs α} (ha : XE X Γ a (RT.dat X.K α) ma) (hb : XE X Γ b (RT.dat X.K α) mb) (hu : X.A.units + 65 < cLine) (hd : Lay.dep α ≤ 64 := by decide) : XC X Γ .Eq a b (m2 ieq ma mb) :=
  .bin (r := rEqD X.K) (op_eqD (by omega)) (nobehind _ (by decide) (by decide)) ha hb rfl rfl fun G H v u x y z Q e hx hy hz q => by
    cases hz
    refine ⟨enc x, enc y, dq_dp (dq_mono e hx), dq_dp (dq_mono e hy), shaped_enc hd x, shaped_enc hd y, ?_⟩
    rw [EqE.eqv]
    exact q
theorem XC.ne [Enc α] [DecidableEq α] [EqE α] [Lay α] {ma mb : M αs α} (ha : XE X Γ a (RT.dat X.K α) ma) (hb : XE X Γ b (RT.dat X.K α) mb) (hu : X.A.units + 65 < cLine) (hd : Lay.dep α ≤ 64 := by decide) : XC X Γ .NotEq a b (m2 ine ma mb) :=
  .bin (r := rNeD X.K) (op_neD (by omega)) (nobehind _ (by decide) (by decide)) ha hb rfl rfl fun G H v u x y z Q e hx hy hz q => by
    cases hz
    refine ⟨enc x, enc y, dq_dp (dq_mono e hx), dq_dp (dq_mono e hy), shaped_enc hd x, shaped_enc hd y, ?_⟩
    rw [EqE.eqv]
    exact q
theorem XC.eqS {ma mb : M αs Str} (ha : XE X Γ a (RT.dat X.K Str) ma) (hb : XE X Γ b (RT.dat X.K Str) mb) : XC X Γ .Eq a b (m2 ieq ma mb) :=
  .bin (r := rEq) op_eq (nobehind _ (by decide) (by decide)) ha hb rfl rfl fun G H v u x y z Q e hx hy hz q => by
    cases hz
    cases dq_str hx; cases dq_str hy
    refine ⟨rfl, ?_⟩
    have h : decide (V.str x = V.str y) = decide (x = y) := by simp
    rw [h]; exact q
theorem XC.neS {ma mb : M αs Str} (ha : XE X Γ a (RT.dat X.K Str) ma) (hb : XE X Γ b (RT.dat X.K Str) mb) : XC X Γ .NotEq a b (m2 ine ma mb) :=
  .bin (r := rNe) op_ne (nobehind _ (by decide) (by decide)) ha hb rfl rfl fun G H v u x y z Q e hx hy hz q => by
    cases hz
    cases dq_str hx; cases dq_str hy
    refine ⟨rfl, ?_⟩
    have h : decide (V.str x = V.str y) = decide (x = y) := by simp
    rw [h]; exact q
theorem any_eqv [Enc α] [DecidableEq α] [EqE α] (x : α) : ∀ xs : List α, ((xs.map enc).any fun z => PyData.eqv z (enc x)) = decide (x ∈ xs)
  | [] => by simp
  | y :: ys => by
    rw [List.map_cons, List.any_cons, any_eqv x ys, EqE.eqv]
    by_cases h : y = x
    · subst h; simp
    · have h' : ¬ x = y := fun e => h e.symm
      simp [h, h']
theorem XC.isin [Enc α] [DecidableEq α] [EqE α] [Lay α] {ma : M αs α} {mb : M αs (List α)} (ha : XE X Γ a (RT.dat X.K α) ma) (hb : XE X Γ b (RT.dat X.K (List α)) mb) (hu : X.A.units + 65 < cLine) (hm : behindInMarks .In b = false := by rfl) (hd : Lay.dep α + 1 ≤ 64 := by decide) :
    XC X Γ .In a b (m2 isin ma mb) :=
  .bin (r := rInD X.K) (op_inD hu) hm ha hb rfl rfl fun G H v u x y z Q e hx hy hz q => by
    cases hz
    refine ⟨enc x, y.map enc, dq_dp (dq_mono e hx), dq_dp (dq_mono e hy), shaped_enc (Nat.le_of_succ_le hd) x, shaped_enc (α := List α) hd y, ?_⟩
    rw [any_eqv]
    exact q
theorem XC.notin [Enc α] [DecidableEq α] [EqE α] [Lay α] {ma : M αs α} {mb : M αs (List α)} (ha : XE X Γ a (RT.dat X.K α) ma) (hb : XE X Γ b (RT.dat X.K (List α)) mb) (hu : X.A.units + 65 < cLine) (hm : behindInMarks .NotIn b = false := by rfl) (hd : Lay.dep α + 1 ≤ 64 := by decide) :
    XC X Γ .NotIn a b (m2 notin ma mb) :=
  .bin (r := rNotInD X.K) (op_notInD hu) hm ha hb rfl rfl fun G H v u x y z Q e hx hy hz q => by
    cases hz
    refine ⟨enc x, y.map enc, dq_dp (dq_mono e hx), dq_dp (dq_mono e hy), shaped_enc (Nat.le_of_succ_le hd) x, shaped_enc (α := List α) hd y, ?_⟩
    rw [any_eqv]
    exact q
/-- i < j < k and its like -/
def chn (f g : Int → Int → Option Bool) (m n l : M αs Int) : M αs Bool := fun s => (m s).bind fun p => (n p.2).bind fun q => (f p.1 q.1).bind fun c => if c = true then (l q.2).bind fun r => (g q.1 r.1).bind fun d => some (d, r.2) else some (false, q.2)

/-! ### items -/
theorem all2_at {P : V → α → Prop} {vs : List V} {xs : List α} {i : Int} {y : α} (h : All2 P vs xs) (e : atI xs i = some y) : ∃ v, atI vs i = some v ∧ P v y := by
  unfold atI at e ⊢
  obtain ⟨j, h1, h2⟩ := bindE e
  rw [h.len, h1]
  exact h.get h2
theorem XE.idx [Enc α] {ma : M αs (List α)} {mb : M αs Int} (ha : XE X Γ a (RT.dat X.K (List α)) ma) (hb : XE X Γ b (RT.dat X.K Int) mb) (hs : PlainIx b := by exact fun _ _ => rfl) : XE X Γ (.Subscript a b pos) (RT.dat X.K α) (m2 idx ma mb) :=
  .bin (r := rIxL X.K) (pe_ix ix_list pe_w pe_w hs) ha hb rfl rfl fun G H v u x y z Q e hx hy hz q => by
    obtain ⟨p, vs, rfl, hp, k⟩ := dq_list hx
    cases dq_int hy
    obtain ⟨w, h1, h2⟩ := all2_at k ((idx_eq _ _).symm.trans hz)
    exact ⟨p, vs, y, w, rfl, rfl, SqL.of (e _ _ hp), h1, here (z := z) e h2 q⟩
theorem XE.fst [Enc α] [Enc β] {ma : M αs (α × β)} {j} {p2 : Pos} (ha : XE X Γ a (RT.dat X.K (α × β)) ma) : XE X Γ (.Subscript a (.Constant (.int 0) j p2) pos) (RT.dat X.K α) (m1 fst' ma) :=
  .un (r := fun v H Q => rIxT X.K v (.int 0) H Q) (pe_ix ix_tup pe_w pe_int fun _ _ => rfl) ha rfl fun G H v x z Q e hx hz q => by
    cases hz
    obtain ⟨p, v1, v2, rfl, hp, h1, h2⟩ := dq_pair hx
    exact ⟨p, [v1, v2], 0, v1, rfl, rfl, e.t hp, rfl, here (z := x.1) e h1 q⟩
theorem XE.snd [Enc α] [Enc β] {ma : M αs (α × β)} {j} {p2 : Pos} (ha : XE X Γ a (RT.dat X.K (α × β)) ma) : XE X Γ (.Subscript a (.Constant (.int 1) j p2) pos) (RT.dat X.K β) (m1 snd' ma) :=
  .un (r := fun v H Q => rIxT X.K v (.int 1) H Q) (pe_ix ix_tup pe_w pe_int fun _ _ => rfl) ha rfl fun G H v x z Q e hx hz q => by
    cases hz
    obtain ⟨p, v1, v2, rfl, hp, h1, h2⟩ := dq_pair hx
    exact ⟨p, [v1, v2], 1, v2, rfl, rfl, e.t hp, rfl, here (z := x.2) e h2 q⟩

/-! ### displays -/
theorem XE.pair [Enc α] [Enc β] {ma : M αs α} {mb : M αs β} {k : Nat} (ha : XE X Γ a (RT.dat X.K α) ma) (hb : XE X Γ b (RT.dat X.K β) mb) (hp : PA X [a, b] (tCons (wE X a) (tCons (wE X b) tNil)) := by exact pa_cons pe_w (pa_cons pe_w pa_nil)) : XE X Γ (.Tuple [a, b] k pos) (RT.dat X.K (α × β)) (m2 pair ma mb) :=
  .bin (r := fun v u H Q => 2 ≤ sizeLine ∧ ∀ p, H p = none → Q (.ref p) (upd H p (.tup [v, u]))) (pe_tup hp) ha hb rfl rfl fun G H v u x y z Q e hx hy hz q => by
    cases hz
    refine ⟨by decide, fun p hp => ?_⟩
    have al := Al.kn e (o := .tup [v, u]) hp
    exact q _ _ _ (fun _ => False) al (show Dq X.K _ _ (.tuple [enc x, enc y]) from .tup (SqT.of upd_same) (.cons (dq_mono al.g hx) (.cons (dq_mono al.g hy) .nil))) newB0
theorem XE.trip [Enc α] [Enc β] [Enc γ] {ma : M αs α} {mb : M αs β} {mc : M αs γ} {k : Nat} (ha : XE X Γ a (RT.dat X.K α) ma) (hb : XE X Γ b (RT.dat X.K β) mb) (hc : XE X Γ c (RT.dat X.K γ) mc)
    (hp : PA X [a, b, c] (tCons (wE X a) (tCons (wE X b) (tCons (wE X c) tNil))) := by exact pa_cons pe_w (pa_cons pe_w (pa_cons pe_w pa_nil))) : XE X Γ (.Tuple [a, b, c] k pos) (RT.dat X.K (T3 α β γ)) (m3 trip ma mb mc) :=
  .tri (r := fun v u w H Q => 3 ≤ sizeLine ∧ ∀ p, H p = none → Q (.ref p) (upd H p (.tup [v, u, w]))) (pe_tup hp) ha hb hc rfl rfl rfl fun G H v u w x y t z Q e hx hy ht hz q => by
    cases hz
    refine ⟨by decide, fun p hp => ?_⟩
    have al := Al.kn e (o := .tup [v, u, w]) hp
    exact q _ _ _ (fun _ => False) al (show Dq X.K _ _ (.tuple [enc x, enc y, enc t]) from .tup (SqT.of upd_same) (.cons (dq_mono al.g hx) (.cons (dq_mono al.g hy) (.cons (dq_mono al.g ht) .nil)))) newB0
/-- a row of expressions of one kind -/
def XL (X : Cx) {αs : List Type} (Γ : RTs X.K αs) (es : List Expr) {α : Type} [Enc α] (m : M αs (List α)) : Prop :=
  ∀ (C : C0) (s : Env αs) (σ : L2.St) (G H : Hp) (o : Addr → Option Nat), Ok C Γ s σ G H o → ∀ (x : List α) (s' : Env αs), m s = some (x, s') → ∀ Q : List V → Hp → Prop,
    (∀ (vs : List V) (G' H' : Hp) (o' : Addr → Option Nat), Ok C Γ s' σ G' H' o' → Ex G G' → Kp Γ s s' → All2 (fun v x => Dq X.K G' v (enc x)) vs x → Q vs H') → wA X es σ H Q
theorem XL.nil [Enc α] : XL X Γ [] (mC ([] : List α)) := by
  intro C s σ G H o k x s' hm Q q
  cases hm
  exact wA_of pa_nil (q [] G H o k (Ex.refl _) .refl trivial)
def consO {α : Type} (x : α) (xs : List α) : Option (List α) := some (x :: xs)
theorem XL.cons [Enc α] {es : List Expr} {ma : M αs α} {ml : M αs (List α)} (ha : XE X Γ e (RT.dat X.K α) ma) (hl : XL X Γ es ml) (hs : starEach (e :: es) X.env = (false, eval e X.env) :: starEach es X.env := by rfl) : XL X Γ (e :: es) (m2 consO ma ml) := by
  intro C s σ G H o k z s' hm Q q
  obtain ⟨x, s1, xs, h1, h2, h3⟩ := m2E hm
  cases h3
  refine wA_of (pa_cons pe_w pa_w hs) ?_
  refine ha C s σ G H o k x s1 h1 _ fun v G1 H1 o1 B k1 g1 kp r1 t1 => ?_
  refine hl C s1 σ G1 H1 o1 k1 xs s' h2 _ fun vs G2 H2 o2 k2 g2 kp2 r2 => ?_
  exact q _ G2 H2 o2 k2 (g1.trans g2) (kp.trans kp2) ⟨dq_mono g2 r1, r2⟩
noncomputable def lstO {α : Type} : List α → Option (List α) := (Seal fun (xs : List α) => if xs.length ≤ 1000000 then some xs else none).1
theorem lstO_eq {α : Type} (xs : List α) : lstO xs = if xs.length ≤ 1000000 then some xs else none := by unfold lstO; rw [(Seal _).2]
theorem XE.lst [Enc α] [PureE α] {es : List Expr} {ml : M αs (List α)} (hl : XL X Γ es ml) : XE X Γ (.List es pos) (RT.own X.K α) (m1 lstO ml) := by
  intro C s σ G H o k z s' hm Q q
  obtain ⟨xs, h1, h2⟩ := m1E hm
  rw [lstO_eq] at h2
  obtain ⟨hz, rfl⟩ := ite_some h2
  refine wE_of (pe_lst pa_w) ?_
  refine hl C s σ G H o k _ s' h1 _ fun vs G1 H1 o1 k1 g1 kp r1 => ?_
  refine ⟨by rw [r1.len]; exact Nat.le_trans hz (by decide), fun p hp => ?_⟩
  have al := Al.my k1.gh (o := .lst vs) hp
  refine q (.ref p) G1 _ o1 (fun a => a = p) (k1.al al) g1 kp ⟨p, vs, rfl, rfl, upd_same, r1⟩ (NewB.tmp k1 fun a ha => ?_)
  subst ha
  refine ⟨hp, ?_, _, upd_same, rfl⟩
  cases h : G1 a with
  | none => rfl
  | some u => rw [k1.gh a u h] at hp; cases hp

/-! ### calls of what is built in -/
section
variable {x : Str} {p : Pos}
theorem XE.len [Enc α] {ma : M αs (List α)} (hg : Gl X "len") (hm : X.mg "len" = none) (ha : XE X Γ a (RT.dat X.K (List α)) ma)
    (he : starEach [a] X.env = [(false, eval a X.env)] := by rfl) : XE X Γ (.Call (.Name "len" p) [a] [] pos) (RT.dat X.K Int) (m1 ilen ma) :=
  .un (r := fun v H Q => ∃ p ys, [v] = [V.ref p] ∧ (SqL X.K H p ys ∨ SqT X.K H p ys) ∧ Q (.int ys.length) H) (pe_callB call_len_seq hg hm PySem.boot_len (pa_cons pe_w pa_nil he) (he := he)) ha rfl fun G H v x z Q e hx hz q => by
    cases hz
    obtain ⟨p, vs, rfl, hp, k⟩ := dq_list hx
    exact ⟨p, vs, rfl, .inl (SqL.of (e _ _ hp)), by rw [k.len]; exact here (z := (x.length : Int)) e (.int _) q⟩
theorem XE.list [Enc α] [PureE α] {ma : M αs (List α)} (hg : Gl X "list") (hm : X.mg "list" = none) (ha : XE X Γ a (RT.dat X.K (List α)) ma)
    (he : starEach [a] X.env = [(false, eval a X.env)] := by rfl) : XE X Γ (.Call (.Name "list" p) [a] [] pos) (RT.own X.K α) (m1 copyl ma) :=
  .un (r := fun v H Q => ∃ p ys, [v] = [V.ref p] ∧ (SqL X.K H p ys ∨ SqT X.K H p ys) ∧ ∀ l, H l = none → Q (.ref l) (upd H l (.lst ys))) (pe_callTy call_list_of hg hm (by decide +kernel) (pa_cons pe_w pa_nil he) (he := he)) ha rfl fun G H v x z Q e hx hz q => by
    cases hz
    obtain ⟨p, vs, rfl, hp, k⟩ := dq_list hx
    refine ⟨p, vs, rfl, .inl (SqL.of (e _ _ hp)), fun l hl => ?_⟩
    refine q (.ref l) G _ (fun a => a = l) (Al.my e hl) ⟨l, vs, rfl, rfl, upd_same, k⟩ fun a ha => ?_
    subst ha
    refine ⟨hl, ?_, _, upd_same, rfl⟩
    cases h : G a with
    | none => rfl
    | some u => rw [e a u h] at hl; cases hl
theorem XE.intOf {ma : M αs Int} (hg : Gl X "int") (hm : X.mg "int" = none) (ha : XE X Γ a (RT.dat X.K Int) ma)
    (he : starEach [a] X.env = [(false, eval a X.env)] := by rfl) : XE X Γ (.Call (.Name "int" p) [a] [] pos) (RT.dat X.K Int) (m1 idt ma) :=
  .un (r := fun v H Q => (∃ i, [v] = [V.int i] ∧ Q (.int i) H) ∨ ∃ k, [v] = [V.bl k] ∧ Q (.int (if k then 1 else 0)) H) (pe_callTy call_int1 hg hm (by decide +kernel) (pa_cons pe_w pa_nil he) (he := he)) ha rfl fun G H v x z Q e hx hz q => by
    cases hz
    cases dq_int hx
    exact .inl ⟨x, rfl, here (z := x) e (.int _) q⟩
theorem XE.abs {ma : M αs Int} (hg : Gl X "abs") (hm : X.mg "abs" = none) (ha : XE X Γ a (RT.dat X.K Int) ma)
    (he : starEach [a] X.env = [(false, eval a X.env)] := by rfl) : XE X Γ (.Call (.Name "abs" p) [a] [] pos) (RT.dat X.K Int) (m1 iabs ma) :=
  .un (r := fun v H Q => ∃ i, [v] = [V.int i] ∧ Q (.int (if i < 0 then -i else i)) H) (pe_callB call_abs hg hm (by decide +kernel) (pa_cons pe_w pa_nil he) (he := he)) ha rfl fun G H v x z Q e hx hz q => by
    cases hz
    cases dq_int hx
    exact ⟨x, rfl, here (z := if x < 0 then -x else x) e (.int _) q⟩
theorem XE.max2 {ma mb : M αs Int} (hc : X.calm = true) (hg : Gl X "max") (hm : X.mg "max" = none) (ha : XE X Γ a (RT.dat X.K Int) ma) (hb : XE X Γ b (RT.dat X.K Int) mb)
    (he : starEach [a, b] X.env = [(false, eval a X.env), (false, eval b X.env)] := by rfl) (he2 : starEach [b] X.env = [(false, eval b X.env)] := by rfl) : XE X Γ (.Call (.Name "max" p) [a, b] [] pos) (RT.dat X.K Int) (m2 imax ma mb) :=
  .bin (r := fun v u H Q => ∃ i j, [v, u] = [V.int i, .int j] ∧ Q (.int (if j > i then j else i)) H) (pe_callB (call_max2 hc) hg hm (by decide +kernel) (pa_cons pe_w (pa_cons pe_w pa_nil he2) (by rw [he, he2])) (he := by rw [he, he2])
    (hpl := by rw [he2]; rfl)) ha hb rfl rfl fun G H v u x y z Q e hx hy hz q => by
    cases hz
    cases dq_int hx
    cases dq_int hy
    exact ⟨x, y, rfl, here (z := if y > x then y else x) e (.int _) q⟩
theorem XE.min2 {ma mb : M αs Int} (hc : X.calm = true) (hg : Gl X "min") (hm : X.mg "min" = none) (ha : XE X Γ a (RT.dat X.K Int) ma) (hb : XE X Γ b (RT.dat X.K Int) mb)
    (he : starEach [a, b] X.env = [(false, eval a X.env), (false, eval b X.env)] := by rfl) (he2 : starEach [b] X.env = [(false, eval b X.env)] := by rfl) : XE X Γ (.Call (.Name "min" p) [a, b] [] pos) (RT.dat X.K Int) (m2 imin ma mb) :=
  .bin (r := fun v u H Q => ∃ i j, [v, u] = [V.int i, .int j] ∧ Q (.int (if j < i then j else i)) H) (pe_callB (call_min2 hc) hg hm (by decide +kernel) (pa_cons pe_w (pa_cons pe_w pa_nil he2) (by rw [he, he2])) (he := by rw [he, he2])
    (hpl := by rw [he2]; rfl)) ha hb rfl rfl fun G H v u x y z Q e hx hy hz q => by
    cases hz
    cases dq_int hx
    cases dq_int hy
    exact ⟨x, y, rfl, here (z := if y < x then y else x) e (.int _) q⟩
end
end
end Sm
/-! S5: tests, statements. -/
namespace Sm
open PySem PySem.Spec L2
open Enc (enc)

section
variable {X : Cx} {αs : List Type} {Γ Γ1 Γ2 Γ' : RTs X.K αs} {α β γ ρ : Type} {e a b c : Expr} {pos : Pos}
/-! ### tests -/
theorem XT.val {m : M αs Bool} (h : XE X Γ e (RT.dat X.K Bool) m) (he : ∀ whole, isTrue e X.env whole = (do let v ← whole; standAt e.pos; holding [v] (truthy v)) := by intro _; rfl) : XT X Γ e m := by
  intro C s σ G H o k z s' hm Q q
  refine wT_of (pt_val pe_w he) ?_
  refine h C s σ G H o k z s' hm _ fun v G1 H1 o1 B k1 g1 kp r1 t1 => ?_
  cases dq_bl r1
  exact ⟨z, rfl, q G1 H1 o1 k1 g1 kp⟩
theorem XT.not {m : M αs Bool} (h : XT X Γ e m) : XT X Γ (.UnaryOp .Not e pos) (m1 bnot m) := by
  intro C s σ G H o k z s' hm Q q
  obtain ⟨x, h1, h2⟩ := m1E hm
  cases h2
  exact wT_of (pt_not pt_w) (h C s σ G H o k x s' h1 _ fun G1 H1 o1 k1 g1 kp => q G1 H1 o1 k1 g1 kp)
def mAnd (m n : M αs Bool) : M αs Bool := fun s => (m s).bind fun p => if p.1 = true then n p.2 else some (false, p.2)
def mOr (m n : M αs Bool) : M αs Bool := fun s => (m s).bind fun p => if p.1 = true then some (true, p.2) else n p.2
theorem XT.ofW {m : M αs Bool} (h : XW X Γ e m) : XT X Γ e m := fun C s σ G H o k z s' hm Q q => wT_of_W (h C s σ G H o k z s' hm Q q)
theorem XW.and1 {m : M αs Bool} (h : XT X Γ a m) : XW X Γ (.BoolOp .And [a] pos) m := fun C s σ G H o k z s' hm Q q => wW_of (pw_and1 pt_w) (h C s σ G H o k z s' hm Q q)
theorem XW.or1 {m : M αs Bool} (h : XT X Γ a m) : XW X Γ (.BoolOp .Or [a] pos) m := fun C s σ G H o k z s' hm Q q => wW_of (pw_or1 pt_w) (h C s σ G H o k z s' hm Q q)
theorem XW.and {m n : M αs Bool} {rest : List Expr} (ha : XT X Γ a m) (hb : XW X Γ (.BoolOp .And (b :: rest) pos) n) : XW X Γ (.BoolOp .And (a :: b :: rest) pos) (mAnd m n) := by
  intro C s σ G H o k z s' hm Q q
  obtain ⟨⟨x, s1⟩, h1, h2⟩ := bindE hm
  refine wW_of (pw_and pt_w pw_w) ?_
  refine ha C s σ G H o k x s1 h1 _ fun G1 H1 o1 k1 g1 kp => ?_
  cases x with
  | true => exact hb C s1 σ G1 H1 o1 k1 z s' h2 Q fun G2 H2 o2 k2 g2 kp2 => q G2 H2 o2 k2 (g1.trans g2) (kp.trans kp2)
  | false =>
    cases h2
    exact q G1 H1 o1 k1 g1 kp
theorem XW.or {m n : M αs Bool} {rest : List Expr} (ha : XT X Γ a m) (hb : XW X Γ (.BoolOp .Or (b :: rest) pos) n) : XW X Γ (.BoolOp .Or (a :: b :: rest) pos) (mOr m n) := by
  intro C s σ G H o k z s' hm Q q
  obtain ⟨⟨x, s1⟩, h1, h2⟩ := bindE hm
  refine wW_of (pw_or pt_w pw_w) ?_
  refine ha C s σ G H o k x s1 h1 _ fun G1 H1 o1 k1 g1 kp => ?_
  cases x with
  | false => exact hb C s1 σ G1 H1 o1 k1 z s' h2 Q fun G2 H2 o2 k2 g2 kp2 => q G2 H2 o2 k2 (g1.trans g2) (kp.trans kp2)
  | true =>
    cases h2
    exact q G1 H1 o1 k1 g1 kp
/-- .. as values -/
theorem XE.one {op} {R : RT X.K β} {m : M αs β} (h : XE X Γ a R m) : XE X Γ (.BoolOp op [a] pos) R m := fun C s σ G H o k z s' hm Q q => wE_of (pe_one pe_w) (h C s σ G H o k z s' hm Q q)
theorem XE.and {m n : M αs Bool} {rest : List Expr} (ha : XE X Γ a (RT.dat X.K Bool) m) (hb : XE X Γ (.BoolOp .And (b :: rest) pos) (RT.dat X.K Bool) n) : XE X Γ (.BoolOp .And (a :: b :: rest) pos) (RT.dat X.K Bool) (mAnd m n) := by
  intro C s σ G H o k z s' hm Q q
  obtain ⟨⟨x, s1⟩, h1, h2⟩ := bindE hm
  refine wE_of (pe_and pe_w pe_w) ?_
  refine ha C s σ G H o k x s1 h1 _ fun v G1 H1 o1 B k1 g1 kp r1 t1 => ?_
  cases dq_bl r1
  cases x with
  | true => exact ⟨true, rfl, hb C s1 σ G1 H1 o1 k1 z s' h2 Q fun v G2 H2 o2 B k2 g2 kp2 r t => q v G2 H2 o2 B k2 (g1.trans g2) (kp.trans kp2) r t⟩
  | false =>
    cases h2
    exact ⟨false, rfl, q _ G1 H1 o1 (fun _ => False) k1 g1 kp (show Dq X.K G1 (.bl false) (.bool false) from .bl _) tmp0⟩
theorem XE.or {m n : M αs Bool} {rest : List Expr} (ha : XE X Γ a (RT.dat X.K Bool) m) (hb : XE X Γ (.BoolOp .Or (b :: rest) pos) (RT.dat X.K Bool) n) : XE X Γ (.BoolOp .Or (a :: b :: rest) pos) (RT.dat X.K Bool) (mOr m n) := by
  intro C s σ G H o k z s' hm Q q
  obtain ⟨⟨x, s1⟩, h1, h2⟩ := bindE hm
  refine wE_of (pe_or pe_w pe_w) ?_
  refine ha C s σ G H o k x s1 h1 _ fun v G1 H1 o1 B k1 g1 kp r1 t1 => ?_
  cases dq_bl r1
  cases x with
  | false => exact ⟨false, rfl, hb C s1 σ G1 H1 o1 k1 z s' h2 Q fun v G2 H2 o2 B k2 g2 kp2 r t => q v G2 H2 o2 B k2 (g1.trans g2) (kp.trans kp2) r t⟩
  | true =>
    cases h2
    exact ⟨true, rfl, q _ G1 H1 o1 (fun _ => False) k1 g1 kp (show Dq X.K G1 (.bl true) (.bool true) from .bl _) tmp0⟩
theorem XE.not {m : M αs Bool} (h : XE X Γ e (RT.dat X.K Bool) m) : XE X Γ (.UnaryOp .Not e pos) (RT.dat X.K Bool) (m1 bnot m) :=
  .un (r := fun x H Q => ∃ c, x = V.bl c ∧ Q (.bl (!c)) H) (pe_not pe_w) h rfl fun G H v x z Q e hx hz q => by
    cases hz
    cases dq_bl hx
    exact ⟨x, rfl, here (z := !x) e (.bl _) q⟩
theorem XE.ite {R : RT X.K β} {mc : M αs Bool} {m n : M αs β} (hc : XT X Γ c mc) (ha : XE X Γ a R m) (hb : XE X Γ b R n) : XE X Γ (.IfExp c a b pos) R (mIte mc m n) := by
  intro C s σ G H o k z s' hm Q q
  obtain ⟨⟨x, s1⟩, h1, h2⟩ := bindE hm
  refine wE_of (pe_ifExp pt_w pe_w pe_w) ?_
  refine hc C s σ G H o k x s1 h1 _ fun G1 H1 o1 k1 g1 kp => ?_
  cases x with
  | true => exact ha C s1 σ G1 H1 o1 k1 z s' h2 Q fun v G2 H2 o2 B k2 g2 kp2 r t => q v G2 H2 o2 B k2 (g1.trans g2) (kp.trans kp2) r t
  | false => exact hb C s1 σ G1 H1 o1 k1 z s' h2 Q fun v G2 H2 o2 B k2 g2 kp2 r t => q v G2 H2 o2 B k2 (g1.trans g2) (kp.trans kp2) r t

/-! ### statements -/
inductive Ctl (ρ : Type) where
  | nx | bk | ct | rt (r : ρ)
abbrev MS (αs : List Type) (ρ : Type) := Env αs → Option (Ctl ρ × Env αs)
/-- what is wanted at the ends of a body -/
structure Pk (K : Fr) (αs : List Type) (ρ : Type) where
  R : RT K ρ
  Γr : RTs K αs
  Γl : RTs K αs
def Fin {K : Fr} (C : C0) {αs : List Type} {ρ : Type} (P : Pk K αs ρ) (Γ : RTs K αs) (D : Ends) (c : Ctl ρ) (s : Env αs) : Prop := match c with
  | .nx => ∀ (σ : L2.St) (G H : Hp) (o : Addr → Option Nat), Ok C Γ s σ G H o → D.nx σ H
  | .bk => ∀ (σ : L2.St) (G H : Hp) (o : Addr → Option Nat), Ok C P.Γl s σ G H o → D.bk σ H
  | .ct => ∀ (σ : L2.St) (G H : Hp) (o : Addr → Option Nat), Ok C P.Γl s σ G H o → D.ct σ H
  | .rt r => ∀ (σ : L2.St) (v : V) (G H : Hp) (o : Addr → Option Nat) (B : Addr → Prop), Ok C P.Γr s σ G H o → P.R.rel G H v r B → Tmp C B G H o → D.rt v H
def XS (X : Cx) {αs : List Type} {ρ : Type} (P : Pk X.K αs ρ) (Γ Γ' : RTs X.K αs) (st : Stmt) (m : MS αs ρ) : Prop :=
  ∀ (C : C0) (s : Env αs) (σ : L2.St) (G H : Hp) (o : Addr → Option Nat), Ok C Γ s σ G H o → ∀ (c : Ctl ρ) (s' : Env αs), m s = some (c, s') → ∀ D : Ends, Fin C P Γ' D c s' → wS X st D σ H
def XSs (X : Cx) {αs : List Type} {ρ : Type} (P : Pk X.K αs ρ) (Γ Γ' : RTs X.K αs) (st : List Stmt) (m : MS αs ρ) : Prop :=
  ∀ (C : C0) (s : Env αs) (σ : L2.St) (G H : Hp) (o : Addr → Option Nat), Ok C Γ s σ G H o → ∀ (c : Ctl ρ) (s' : Env αs), m s = some (c, s') → ∀ D : Ends, Fin C P Γ' D c s' → wSs X st D σ H
def sSkip : MS αs ρ := fun s => some (.nx, s)
def sSeq (m n : MS αs ρ) : MS αs ρ := fun s => (m s).bind fun p => match p.1 with
  | .nx => n p.2
  | .bk => some (.bk, p.2)
  | .ct => some (.ct, p.2)
  | .rt r => some (.rt r, p.2)
def sAsg (x : Var αs α) (m : M αs α) : MS αs ρ := fun s => (m s).bind fun p => some (.nx, x.set (some p.1) p.2)
def sRet (m : M αs ρ) : MS αs ρ := fun s => (m s).bind fun p => some (.rt p.1, p.2)
def sIf (c : M αs Bool) (m n : MS αs ρ) : MS αs ρ := fun s => (c s).bind fun p => if p.1 = true then m p.2 else n p.2
def sDrop (m : M αs α) : MS αs ρ := fun s => (m s).bind fun p => some (.nx, p.2)
def sBk : MS αs ρ := fun s => some (.bk, s)
def sCt : MS αs ρ := fun s => some (.ct, s)
def sFail : MS αs ρ := fun _ => none
variable {P : Pk X.K αs ρ} {st : Stmt} {rest sts : List Stmt}
theorem XSs.nil : XSs X P Γ Γ [] sSkip := by
  intro C s σ G H o k c s' hm D f
  cases hm
  exact wSs_of pss_nil (f σ G H o k)
theorem XSs.cons {m n : MS αs ρ} (h1 : XS X P Γ Γ1 st m) (h2 : XSs X P Γ1 Γ2 rest n) : XSs X P Γ Γ2 (st :: rest) (sSeq m n) := by
  intro C s σ G H o k c s' hm D f
  obtain ⟨⟨c1, s1⟩, e1, e2⟩ := bindE hm
  refine wSs_of (pss_cons ps_w pss_w) ?_
  refine h1 C s σ G H o k c1 s1 e1 _ ?_
  cases c1 with
  | nx => exact fun σ' G' H' o' k' => h2 C s1 σ' G' H' o' k' c s' e2 D f
  | bk => cases e2; exact f
  | ct => cases e2; exact f
  | rt r => cases e2; exact f
theorem XSs.one {m : MS αs ρ} (h1 : XS X P Γ Γ1 st m) : XSs X P Γ Γ1 [st] m := by
  intro C s σ G H o k c s' hm D f
  exact wSs_of (pss_one ps_w) (h1 C s σ G H o k c s' hm D f)
theorem XS.never : XS X P Γ Γ1 st (sFail : MS αs ρ) := by
  intro C s σ G H o k c s' hm D f
  cases hm
theorem XSs.never : XSs X P Γ Γ1 sts (sFail : MS αs ρ) := by
  intro C s σ G H o k c s' hm D f
  cases hm
theorem XS.pass : XS X P Γ Γ (.Pass pos) (sSkip : MS αs ρ) := by
  intro C s σ G H o k c s' hm D f
  cases hm
  exact wS_of ps_pass (f σ G H o k)
theorem XS.brk (h : Γ = P.Γl) : XS X P Γ Γ1 (.Break pos) (sBk : MS αs ρ) := by
  subst h
  intro C s σ G H o k c s' hm D f
  cases hm
  exact wS_of ps_break (f σ G H o k)
theorem XS.cont (h : Γ = P.Γl) : XS X P Γ Γ1 (.Continue pos) (sCt : MS αs ρ) := by
  subst h
  intro C s σ G H o k c s' hm D f
  cases hm
  exact wS_of ps_continue (f σ G H o k)
theorem XS.ite {mc : M αs Bool} {m n : MS αs ρ} {x y : List Stmt} (hc : XT X Γ c mc) (ha : XSs X P Γ Γ1 x m) (hb : XSs X P Γ Γ1 y n) : XS X P Γ Γ1 (.If c x y pos) (sIf mc m n) := by
  intro C s σ G H o k cc s' hm D f
  obtain ⟨⟨t, s1⟩, e1, e2⟩ := bindE hm
  refine wS_of (ps_if pt_w pss_w pss_w) ?_
  refine hc C s σ G H o k t s1 e1 _ fun G1 H1 o1 k1 g1 kp => ?_
  cases t with
  | true => exact ha C s1 σ G1 H1 o1 k1 cc s' e2 D f
  | false => exact hb C s1 σ G1 H1 o1 k1 cc s' e2 D f
theorem XS.asg {x : Var αs α} {R : RT X.K α} {m : M αs α} {n : Str} {pos' : Pos} (he : XE X Γ e R m) (hN : X.N.Nodup) (hi : X.N[x.idx]? = some n) (hx : Loc X.env.scope n)
    (hs : swapsWith e (some (.Name n pos')) pos.line X.env = pure false := by rfl) (hf : X.fn n = true ∨ X.env.scope.names.lookup n = some .local := by first | exact .inl rfl | exact .inr rfl) :
    XS X P Γ (x.setR R Γ) (.Assign [.Name n pos'] e pos) (sAsg x m) := by
  intro C s σ G H o k c s' hm D f
  obtain ⟨⟨y, s1⟩, e1, e2⟩ := bindE hm
  cases e2
  refine wS_of (ps_set hN hi hx pe_w hs hf) ?_
  refine he C s σ G H o k y s1 e1 _ fun v G1 H1 o1 B k1 g1 kp r t => ?_
  obtain ⟨o2, k2⟩ := k1.set x R r t
  exact f _ G1 H1 o2 k2
/-- forgetting -/
def Wk {K : Fr} : {αs : List Type} → RTs K αs → RTs K αs → Prop
  | [], _, _ => True
  | α :: _, Γ, Γ' => (Γ'.1 = Γ.1 ∨ Γ'.1 = RT.dead K α) ∧ Wk Γ.2 Γ'.2
theorem Wk.get {K : Fr} {αs : List Type} {Γ Γ' : RTs K αs} (h : Wk Γ Γ') {α : Type} (x : Var αs α) : x.rt Γ' = x.rt Γ ∨ x.rt Γ' = RT.dead K α := by
  induction x with
  | vz => exact h.1
  | vs x ih => exact ih h.2
theorem Ok.weak {C : C0} {s : Env αs} {σ : L2.St} {G H : Hp} {o : Addr → Option Nat} (k : Ok C Γ s σ G H o) (w : Wk Γ Γ') : Ok C Γ' s σ G H o := by
  refine ⟨k.g, k.gh, k.new, k.fr, k.dom, k.imm, k.own, k.len, fun α x y hy => ?_⟩
  obtain ⟨v, e, r⟩ := k.sl α x y hy
  refine ⟨v, e, ?_⟩
  rcases w.get x with h | h
  · rw [h]; exact r
  · rw [h]; exact trivial
theorem XSs.weak {m : MS αs ρ} (h : XSs X P Γ1 Γ2 sts m) (w : Wk Γ Γ1) : XSs X P Γ Γ2 sts m := fun C s σ G H o k => h C s σ G H o (k.weak w)
theorem XSs.to {m : MS αs ρ} (h : XSs X P Γ Γ1 sts m) (w : Wk Γ1 Γ2) : XSs X P Γ Γ2 sts m := fun C s σ G H o k c s' hm D f => h C s σ G H o k c s' hm D (by
  cases c with
  | nx => exact fun σ' G' H' o' k' => f σ' G' H' o' (k'.weak w)
  | bk => exact f
  | ct => exact f
  | rt r => exact f)
theorem XS.ret {m : M αs ρ} (he : XE X Γ e P.R m) (w : Wk Γ P.Γr) : XS X P Γ Γ1 (.Return (some e) pos) (sRet m) := by
  intro C s σ G H o k c s' hm D f
  obtain ⟨⟨y, s1⟩, e1, e2⟩ := bindE hm
  cases e2
  refine wS_of (ps_ret pe_w) ?_
  exact he C s σ G H o k y s1 e1 _ fun v G1 H1 o1 B k1 g1 kp r t => f σ v G1 H1 o1 B (k1.weak w) r t
/-- one's own value handed out -/
theorem XS.retV {x : Var αs ρ} {n : Str} {pos' : Pos} (hpe : PE X (.Name n pos') (tVar x.idx)) (hr : x.rt Γ = P.R) (w : Wk (x.setR (RT.dead _ _) Γ) P.Γr) : XS X P Γ Γ1 (.Return (some (.Name n pos')) pos) (sRet (mV x)) := by
  classical
  intro C s σ G H o k c s' hm D f
  obtain ⟨⟨y, s1⟩, e1, e2⟩ := bindE hm
  cases e2
  obtain ⟨y', h1, h⟩ := bindE e1
  cases h
  obtain ⟨v, e, r⟩ := k.sl ρ x y h1
  rw [hr] at r
  refine wS_of (ps_ret hpe) ⟨v, e, f σ v G H (fun a => if o a = some x.idx then none else o a) _ (Ok.weak ?_ w) r fun a ha => ?_⟩
  · refine ⟨k.g, k.gh, k.new, k.fr, k.dom, k.imm, fun a ha => ?_, k.len, Var.split x (fun z hz => ?_) fun β z hz u hu => ?_⟩
    · by_cases h : o a = some x.idx
      · simp [h] at ha
      · simp only [h, if_false] at ha; exact k.own a ha
    · obtain ⟨v', e', _⟩ := k.sl ρ x z hz
      refine ⟨v', e', ?_⟩
      rw [Var.rt_set]; exact trivial
    · obtain ⟨v', e', r'⟩ := k.sl β z u hu
      refine ⟨v', e', ?_⟩
      rw [Var.rt_ne x z _ _ hz]
      refine (z.rt Γ).wid r' fun a ha => ?_
      have ha' : o a = some z.idx := ha
      show (if o a = some x.idx then none else o a) = some z.idx
      rw [if_neg (by rw [ha']; exact fun e => hz (Option.some.inj e))]; exact ha'
  · have ha' : o a = some x.idx := ha
    obtain ⟨h1, h2, h3⟩ := k.own a (by rw [ha']; simp)
    exact ⟨by simp [ha'], h1, h2, h3⟩
theorem XS.drop {R : RT X.K α} {m : M αs α} (he : XE X Γ e R m) (hs : swapsWith e none pos.line X.env = pure false := by rfl) : XS X P Γ Γ (.Expr e pos) (sDrop m : MS αs ρ) := by
  intro C s σ G H o k c s' hm D f
  obtain ⟨⟨y, s1⟩, e1, e2⟩ := bindE hm
  cases e2
  refine wS_of (ps_expr pe_w hs) ?_
  exact he C s σ G H o k y s1 e1 _ fun v G1 H1 o1 B k1 g1 kp r t => f σ G1 H1 o1 k1
/-- what is one's own is shared from here on -/
theorem Ok.freeze {C : C0} {s : Env αs} {σ : L2.St} {G H : Hp} {o : Addr → Option Nat} (k : Ok C Γ s σ G H o) (x : Var αs α) : ∃ G' o', Ok C (x.setR (RT.sh (x.rt Γ)) Γ) s σ G' H o' ∧ Ex G G' := by
  classical
  have SG : ∀ a, o a = some x.idx → G a = none := fun a h => (k.own a (by rw [h]; simp)).1
  have ex1 : Ex G (fun a => if o a = some x.idx then H a else G a) := fun a ob e => by
    by_cases h : o a = some x.idx
    · rw [SG a h] at e; cases e
    · simp only [h, if_false]; exact e
  refine ⟨fun a => if o a = some x.idx then H a else G a, fun a => if o a = some x.idx then none else o a, ⟨k.g.trans ex1, fun a ob e => ?_, fun a nm h0 g0 => ?_, k.fr, k.dom, k.imm, fun a ha => ?_, k.len, Var.split x ?_ fun β y hy z hz => ?_⟩, ex1⟩
  · by_cases h : o a = some x.idx
    · simpa [h] using e
    · simp only [h, if_false] at e; exact k.gh a ob e
  · have h : o a ≠ some x.idx := fun h => by
      rcases (k.own a (by rw [h]; simp)).2.2 with q | q
      · exact nm q
      · exact h0 q
    simp only [h, if_false]
    exact k.new a nm h0 g0
  · by_cases h : o a = some x.idx
    · simp [h] at ha
    · simp only [h, if_false] at ha ⊢
      exact k.own a ha
  · intro z hz
    obtain ⟨v, e, r⟩ := k.sl α x z hz
    refine ⟨v, e, ?_⟩
    rw [Var.rt_set]
    exact (x.rt Γ).view r ex1 fun a ob ha hb => by
      have ha' : o a = some x.idx := ha
      simp only [ha', if_true]; exact hb
  · obtain ⟨v, e, r⟩ := k.sl β y z hz
    refine ⟨v, e, ?_⟩
    rw [Var.rt_ne x y _ _ hy]
    refine (y.rt Γ).wid ((y.rt Γ).grow r ex1 fun _ _ => rfl) fun a ha => ?_
    have ha' : o a = some y.idx := ha
    show (if o a = some x.idx then none else o a) = some y.idx
    rw [if_neg (by rw [ha']; exact fun e => hy (Option.some.inj e))]
    exact ha'
theorem XSs.freeze {m : MS αs ρ} (x : Var αs α) (h : XSs X P (x.setR (RT.sh (x.rt Γ)) Γ) Γ2 sts m) : XSs X P Γ Γ2 sts m := fun C s σ G H o k c s' hm D f => by
  obtain ⟨G1, o1, k1, _⟩ := k.freeze x
  exact h C s σ G1 H o1 k1 c s' hm D f
end
end Sm
/-! S6: loops, comprehensions, lists of one's own. -/
namespace Sm
open PySem PySem.Spec L2
open Enc (enc)

section
variable {K : Fr} {C : C0} {αs : List Type} {Γ Γ' : RTs K αs} {s s' : Env αs} {σ σ' : L2.St} {G H G' H' : Hp} {o o' : Addr → Option Nat} {B : Addr → Prop}
/-- the state as an entry of its own -/
abbrev reC (G H : Hp) (o : Addr → Option Nat) : C0 := ⟨G, H, fun a => o a ≠ none⟩
theorem Ok.re (k : Ok C Γ s σ G H o) : Ok (reC G H o) Γ s σ G H o :=
  ⟨Ex.refl _, k.gh, fun _ _ _ h => h, fun _ _ _ h => h, fun _ h => h, fun _ _ h _ => h, fun a ha => ⟨(k.own a ha).1, (k.own a ha).2.1, .inl ha⟩, k.len, k.sl⟩
theorem Ok.free (k : Ok C Γ s σ G H o) {a : Addr} (h : o a ≠ none ∨ H a = none) : C.M0 a ∨ C.H0 a = none := by
  rcases h with h | h
  · exact (k.own a h).2.2
  · right
    cases q : C.H0 a with
    | none => rfl
    | some u => exact absurd h (k.dom a (by rw [q]; simp))
theorem Ok.back (k : Ok C Γ s σ G H o) (k' : Ok (reC G H o) Γ' s' σ' G' H' o') : Ok C Γ' s' σ' G' H' o' := by
  have nm : ∀ a u, ¬ C.M0 a → C.H0 a = some u → ¬ (reC G H o).M0 a := fun a u n h z => by
    rcases (k.own a z).2.2 with q | q
    · exact n q
    · rw [q] at h; cases h
  refine ⟨k.g.trans k'.g, k'.gh, fun a n h0 g0 => ?_, fun a ob n h0 => k'.fr a ob (nm a ob n h0) (k.fr a ob n h0), fun a h0 => k'.dom a (k.dom a h0), fun a ob h0 i => k'.imm a ob (k.imm a ob h0 i) i, fun a ha => ?_, k'.len, k'.sl⟩
  · cases q : C.H0 a with
    | none => exact absurd q h0
    | some u => exact k'.new a (nm a u n q) (k.dom a h0) (k.new a n h0 g0)
  · obtain ⟨h1, h2, h3⟩ := k'.own a ha
    exact ⟨h1, h2, k.free h3⟩
theorem Tmp.back (k : Ok C Γ s σ G H o) (t : Tmp (reC G H o) B G' H' o') : Tmp C B G' H' o' := fun a ha => by
  obtain ⟨h1, h2, h3, h4⟩ := t a ha
  exact ⟨h1, h2, h3, k.free h4⟩
end

section
variable {X : Cx} {αs : List Type} {Γ Γ1 Γ2 Γ' Γt : RTs X.K αs} {α β γ ρ : Type} {e a b c tg iter : Expr} {pos : Pos}
/-! ### what is walked -/
def wI (X : Cx) (tg iter : Expr) : TI := fun σ H R => ∀ pins s, Inv X pins σ H s → wpAny (model X.prog X.w) X.A (eval iter X.env) (fun v s1 => wpAny (model X.prog X.w) X.A (pyIter v) (PIE X pins σ tg R) X.xe s1) X.xe s
theorem pi_w : PI X tg iter (wI X tg iter) := ⟨fun pins s _ _ _ I h => h pins s I⟩
theorem wI_of {wi : TI} {σ : L2.St} {H : Hp} {R : It → Hp → Prop} (h : PI X tg iter wi) (q : wi σ H R) : wI X tg iter σ H R := fun pins s I => h.run pins s σ H R I q
/-- an iterator over the items xs -/
structure Src {K : Fr} (G0 : Hp) (J : It) (R : RT K α) (xs : List α) : Prop where
  go : ∀ i y H, xs[i]? = some y → Ex G0 H → J.go i H
  stop : ∀ H, Ex G0 H → J.stop xs.length H
  yld : ∀ i y G H x H', xs[i]? = some y → Ex G0 G → Ex G H → J.yld i H x H' → ∃ G', Al G H G' H' ∧ R.shr G' x y
def XI (X : Cx) {αs : List Type} (Γ : RTs X.K αs) (tg iter : Expr) (R : RT X.K α) (m : M αs (List α)) : Prop :=
  ∀ (C : C0) (s : Env αs) (σ : L2.St) (G H : Hp) (o : Addr → Option Nat), Ok C Γ s σ G H o → ∀ (xs : List α) (s' : Env αs), m s = some (xs, s') → ∀ Rw : It → Hp → Prop,
    (∀ (J : It) (G' H' : Hp) (o' : Addr → Option Nat), Ok C Γ s' σ G' H' o' → Ex G G' → Kp Γ s s' → Src G' J R xs → Rw J H') → wI X tg iter σ H Rw
noncomputable def rng : Int → Option (List Int) := (Seal fun (n : Int) => if -(2 ^ 62) ≤ n ∧ n < 2 ^ 62 then some ((List.range n.toNat).map fun (i : Nat) => (i : Int)) else none).1
theorem rng_eq (n : Int) : rng n = if -(2 ^ 62) ≤ n ∧ n < 2 ^ 62 then some ((List.range n.toNat).map fun (i : Nat) => (i : Int)) else none := by unfold rng; rw [(Seal _).2]
noncomputable def rng2 : Int → Int → Option (List Int) := (Seal fun (a n : Int) => if -(2 ^ 62) ≤ a ∧ a < 2 ^ 62 ∧ -(2 ^ 62) ≤ n ∧ n < 2 ^ 62 then some ((List.range (n - a).toNat).map fun (i : Nat) => a + (i : Int)) else none).1
theorem rng2_eq (a n : Int) : rng2 a n = if -(2 ^ 62) ≤ a ∧ a < 2 ^ 62 ∧ -(2 ^ 62) ≤ n ∧ n < 2 ^ 62 then some ((List.range (n - a).toNat).map fun (i : Nat) => a + (i : Int)) else none := by unfold rng2; rw [(Seal _).2]
theorem src_range {K : Fr} {G : Hp} (lo : Int) (n : Nat) : Src G (Itr lo n) (RT.dat K Int) ((List.range n).map fun (i : Nat) => lo + (i : Int)) := by
  have at_ : ∀ (i : Nat) y, ((List.range n).map fun (i : Nat) => lo + (i : Int))[i]? = some y → i < n ∧ y = lo + (i : Int) := fun i y h => by
    rw [List.getElem?_map] at h
    cases q : (List.range n)[i]? with
    | none => rw [q] at h; cases h
    | some j =>
      rw [q] at h
      obtain ⟨h1, h2⟩ := List.getElem?_eq_some_iff.mp q
      have h3 : i < n := by simpa using h1
      have h4 : i = j := by simpa using h2
      subst h4
      exact ⟨h3, by simpa using h.symm⟩
  refine ⟨fun i y H h _ => (at_ i y h).1, fun H _ => ?_, fun i y G H x H' h _ e yl => ?_⟩
  · show n ≤ _
    rw [List.length_map, List.length_range]
    exact Nat.le_refl _
  · obtain ⟨rfl, rfl⟩ := yl
    obtain ⟨_, rfl⟩ := at_ i y h
    exact ⟨G, .refl e, .int _⟩
theorem XI.range1 {ma : M αs Int} {p : Pos} (hg : Gl X "range") (hm : X.mg "range" = none) (ha : XE X Γ a (RT.dat X.K Int) ma) (hs : starEach [a] X.env = [(false, eval a X.env)] := by rfl) :
    XI X Γ tg (.Call (.Name "range" p) [a] [] pos) (RT.dat X.K Int) (m1 rng ma) := by
  intro C s σ G H o k xs s' hm' Rw q
  obtain ⟨n, h1, h2⟩ := m1E hm'
  rw [rng_eq] at h2
  obtain ⟨hb, rfl⟩ := ite_some h2
  refine wI_of (pi_range1 hg hm (pa_cons pe_w pa_nil hs) hs) ?_
  refine ha C s σ G H o k n s' h1 _ fun v G1 H1 o1 B k1 g1 kp r t => ?_
  cases dq_int r
  refine ⟨n, rfl, hb.1, hb.2, q _ G1 H1 o1 k1 g1 kp ?_⟩
  have := src_range (K := X.K) (G := G1) 0 n.toNat
  simpa using this
theorem XI.range2 {ma mb : M αs Int} {p : Pos} (hg : Gl X "range") (hm : X.mg "range" = none) (ha : XE X Γ a (RT.dat X.K Int) ma) (hb : XE X Γ b (RT.dat X.K Int) mb)
    (hp : PA X [a, b] (tCons (wE X a) (tCons (wE X b) tNil)) := by exact pa_cons pe_w (pa_cons pe_w pa_nil)) (hs : starEach [a, b] X.env = [(false, eval a X.env), (false, eval b X.env)] := by rfl) (hs2 : starEach [b] X.env = [(false, eval b X.env)] := by rfl) :
    XI X Γ tg (.Call (.Name "range" p) [a, b] [] pos) (RT.dat X.K Int) (m2 rng2 ma mb) := by
  intro C s σ G H o k xs s' hm' Rw q
  obtain ⟨x, s1, y, h1, h2, h3⟩ := m2E hm'
  rw [rng2_eq] at h3
  obtain ⟨hz, rfl⟩ := ite_some h3
  refine wI_of (pi_range2 hg hm hp hs hs2) ?_
  refine ha C s σ G H o k x s1 h1 _ fun v G1 H1 o1 B k1 g1 kp r t => ?_
  refine hb C s1 σ G1 H1 o1 k1 y s' h2 _ fun u G2 H2 o2 B2 k2 g2 kp2 r2 t2 => ?_
  cases dq_int r
  cases dq_int r2
  exact ⟨x, y, rfl, hz, q _ G2 H2 o2 k2 (g1.trans g2) (kp.trans kp2) (src_range x (y - x).toNat)⟩
theorem src_list {K : Fr} [Enc α] {G : Hp} {p : Addr} {vs : List V} {xs : List α} (hp : G p = some (.lst vs)) (h : All2 (fun v x => Dq K G v (enc x)) vs xs) : Src G (Itl K p) (RT.dat K α) xs := by
  refine ⟨fun i y H hy e => ?_, fun H e => ⟨vs, SqL.of (e _ _ hp), by rw [h.len]; exact Nat.le_refl _⟩, fun i y G2 H x H' hy e e2 yl => ?_⟩
  · obtain ⟨v, h1, _⟩ := h.get hy
    exact ⟨vs, v, SqL.of (e _ _ hp), h1⟩
  · obtain ⟨rfl, yl⟩ := yl
    obtain ⟨v, h1, h2⟩ := h.get hy
    have := yl vs (SqL.of (e2 _ _ (e _ _ hp)))
    rw [h1] at this; cases this
    exact ⟨G2, .refl e2, dq_mono e h2⟩
theorem XI.list [Enc α] {ma : M αs (List α)} (ha : XE X Γ iter (RT.dat X.K (List α)) ma) : XI X Γ tg iter (RT.dat X.K α) ma := by
  intro C s σ G H o k xs s' hm Rw q
  refine wI_of (pi_list pe_w) ?_
  refine ha C s σ G H o k xs s' hm _ fun v G1 H1 o1 B k1 g1 kp r t => ?_
  obtain ⟨p, vs, rfl, hp, h⟩ := dq_list r
  exact ⟨p, rfl, ⟨vs, SqL.of (k1.gh _ _ hp)⟩, q _ G1 H1 o1 k1 g1 kp (src_list hp h)⟩

/-! ### targets -/
def wG (X : Cx) (tg : Expr) : TG := fun v σ H Q => ∀ (pins : List (Addr × Obj)) (s : Shared) (u : Value), Inv X pins σ H s → RelV v u → wpAny (model X.prog X.w) X.A (assign tg X.env u) (fun _ s' => ∃ σ' H', Inv X pins σ' H' s' ∧ Q σ' H') X.xe s
theorem pg_w : PG X tg (wG X tg) := ⟨fun pins s _ _ _ u _ I r h => h pins s u I r⟩
theorem wG_of {g : TG} {v : V} {σ : L2.St} {H : Hp} {Q : L2.St → Hp → Prop} (h : PG X tg g) (q : g v σ H Q) : wG X tg v σ H Q := fun pins s u I r => h.run pins s σ H v u Q I r q
/-- vs: the slots that are stored -/
def XG (X : Cx) {αs : List Type} (Γ Γ' : RTs X.K αs) (tg : Expr) (R : RT X.K α) (vs : List Nat) (f : α → Env αs → Env αs) : Prop :=
  ∀ (C : C0) (s : Env αs) (σ : L2.St) (G H : Hp) (o : Addr → Option Nat), Ok C Γ s σ G H o → ∀ (v : V) (y : α), R.shr G v y → ∀ Q : L2.St → Hp → Prop,
    (∀ (σ' : L2.St) (o' : Addr → Option Nat), Ok C Γ' (f y s) σ' G H o' → (wipe σ' vs = wipe σ vs) → Q σ' H) → wG X tg v σ H Q
theorem XG.name {x : Var αs α} {R : RT X.K α} {n : Str} (hR : R.fix = true) (hN : X.N.Nodup) (hi : X.N[x.idx]? = some n) (hx : Loc X.env.scope n) (hf : X.fn n = true ∨ X.env.scope.names.lookup n = some .local := by first | exact .inl rfl | exact .inr rfl) :
    XG X Γ (x.setR R Γ) (.Name n pos) R [x.idx] (fun y s => x.set (some y) s) := by
  intro C s σ G H o k v y r Q q
  obtain ⟨o', k'⟩ := k.set x R ((cpy_of hR G H v y (fun _ => False)).mpr r) fun _ h => h.elim
  refine wG_of (pg_name hN hi hx hf) (q _ o' k' ?_)
  show (σ.set x.idx (some v)).set x.idx none = σ.set x.idx none
  rw [List.set_set]
theorem XG.pair [Enc α] [Enc β] {x : Var αs α} {y : Var αs β} {n n' : Str} {p1 p2 : Pos} {kk : Nat} (hc : X.calm = true) (hN : X.N.Nodup) (hi : X.N[x.idx]? = some n) (hx : Loc X.env.scope n) (hj : X.N[y.idx]? = some n') (hy : Loc X.env.scope n') (hne : x.idx ≠ y.idx)
    (hf : X.fn n = true ∨ X.env.scope.names.lookup n = some .local := by first | exact .inl rfl | exact .inr rfl) (hf' : X.fn n' = true ∨ X.env.scope.names.lookup n' = some .local := by first | exact .inl rfl | exact .inr rfl) :
    XG X Γ (y.setR (RT.dat X.K β) (x.setR (RT.dat X.K α) Γ)) (.Tuple [.Name n p1, .Name n' p2] kk pos) (RT.dat X.K (α × β)) [x.idx, y.idx] (fun z s => y.set (some z.2) (x.set (some z.1) s)) := by
  intro C s σ G H o k v z r Q q
  obtain ⟨p, v1, v2, rfl, hp, h1, h2⟩ := dq_pair r
  obtain ⟨o', k'⟩ := k.set x (RT.dat X.K α) (v := v1) (y := z.1) (B := fun _ => False) h1 fun _ h => h.elim
  obtain ⟨o2, k2⟩ := k'.set y (RT.dat X.K β) (v := v2) (y := z.2) (B := fun _ => False) h2 fun _ h => h.elim
  refine wG_of (pg_tup hc (pgs_cons (pg_name hN hi hx hf) (pgs_cons (pg_name hN hj hy hf') pgs_nil))) ?_
  refine ⟨p, [v1, v2], rfl, k.gh.t hp, rfl, v1, [v2], rfl, v2, [], rfl, rfl, q _ o2 k2 ?_⟩
  show (((σ.set x.idx (some v1)).set y.idx (some v2)).set y.idx none).set x.idx none = (σ.set y.idx none).set x.idx none
  rw [List.set_set, List.set_comm _ _ hne, List.set_set]

/-! ### for -/
def loopF (f : α → Env αs → Env αs) (m : MS αs ρ) : List α → Env αs → Option (Ctl ρ × Env αs)
  | [], s => some (.nx, s)
  | x :: xs, s => (m (f x s)).bind fun p => match p.1 with
    | .nx => loopF f m xs p.2
    | .ct => loopF f m xs p.2
    | .bk => some (.nx, p.2)
    | .rt r => some (.rt r, p.2)
def sFor (mi : M αs (List α)) (f : α → Env αs → Env αs) (m : MS αs ρ) : MS αs ρ := fun s => (mi s).bind fun p => loopF f m p.1 p.2
variable {P : Pk X.K αs ρ} {body : List Stmt}
theorem XS.for_ {R : RT X.K α} {mi : M αs (List α)} {f : α → Env αs → Env αs} {m : MS αs ρ} {vs : List Nat} (hp : PassesOwn (model X.prog X.w) X.A X.env X.xe) (hc : X.calm = true) (hi : XI X Γ tg iter R mi) (w : Wk Γ Γ1)
    (hg : XG X Γ1 Γt tg R vs f) (hb : XSs X ⟨P.R, P.Γr, Γ1⟩ Γt Γ1 body m) (hs : ∀ x, foldedSetIterable iter X.env x = pure x := by intro _; rfl) : XS X P Γ Γ1 (.For tg iter body [] pos) (sFor mi f m) := by
  intro C s σ G H o k c s' hm D fin
  obtain ⟨⟨xs, s1⟩, e1, e2⟩ := bindE hm
  refine wS_of (ps_for hp hc pi_w pg_w pss_w hs) ?_
  refine hi C s σ G H o k xs s1 e1 _ fun J G1 H1 o1 k1 g1 kp src => ?_
  have k1 := k1.weak w
  have base : ∀ {Γ' : RTs X.K αs} {s2 : Env αs} {σ2 : L2.St} {G2 H2 : Hp} {o2 : Addr → Option Nat}, Ok (reC G1 H1 o1) Γ' s2 σ2 G2 H2 o2 → Ok C Γ' s2 σ2 G2 H2 o2 := fun k2 => k1.back k2
  refine ⟨fun i n σ' H' => n = xs.length - i ∧ i ≤ xs.length ∧ ∃ s2 G2 o2, Ok (reC G1 H1 o1) Γ1 s2 σ' G2 H' o2 ∧ loopF f m (xs.drop i) s2 = some (c, s'), ⟨xs.length, by simp, Nat.zero_le _, s1, G1, o1, k1.re, e2⟩, ?_⟩
  rintro i n σ' H' ⟨rfl, hi', s2, G2, o2, k2, e3⟩
  by_cases hlt : i < xs.length
  · have hat : xs[i]? = some xs[i] := List.getElem?_eq_getElem hlt
    rw [List.drop_eq_getElem_cons hlt] at e3
    obtain ⟨⟨c2, s3⟩, e4, e5⟩ := bindE e3
    refine .inr ⟨src.go i _ H' hat (k2.g.trans k2.gh), fun σ3 H3 => ∃ s2 G2 o2, Ok (reC G1 H1 o1) Γ1 s2 σ3 G2 H3 o2 ∧ loopF f m (xs.drop (i + 1)) s2 = some (c, s'), fun σ3 H3 q => ⟨xs.length - (i + 1), by omega, rfl, hlt, q⟩, fun x H3 yl => ?_⟩
    obtain ⟨G3, al, r⟩ := src.yld i _ G2 H' x H3 hat k2.g k2.gh yl
    refine hg _ s2 σ' G3 H3 o2 (k2.al al) x _ r _ fun σ4 o4 k4 _ => ?_
    refine hb _ _ σ4 G3 H3 o4 k4 c2 s3 e4 _ ?_
    cases c2 with
    | nx => exact fun σ5 G5 H5 o5 k5 => ⟨s3, G5, o5, k5, e5⟩
    | ct => exact fun σ5 G5 H5 o5 k5 => ⟨s3, G5, o5, k5, e5⟩
    | bk =>
      cases e5
      exact fun σ5 G5 H5 o5 k5 => fin σ5 G5 H5 o5 (base k5)
    | rt r =>
      cases e5
      exact fun σ5 v G5 H5 o5 B k5 r5 t5 => fin σ5 v G5 H5 o5 B (base k5) r5 (Tmp.back k1 t5)
  · have e : i = xs.length := by omega
    subst e
    rw [List.drop_length] at e3
    cases e3
    exact .inl ⟨src.stop H' (k2.g.trans k2.gh), fin σ' G2 H' o2 (base k2)⟩

/-! ### while -/
def loopW (mc : M αs Bool) (m : MS αs ρ) : Nat → Env αs → Option (Ctl ρ × Env αs)
  | 0, _ => none
  | n + 1, s => (mc s).bind fun p => if p.1 = true then (m p.2).bind fun q => match q.1 with
    | .nx => loopW mc m n q.2
    | .ct => loopW mc m n q.2
    | .bk => some (.nx, q.2)
    | .rt r => some (.rt r, q.2) else some (.nx, p.2)
open Classical in
noncomputable def sWhile (mc : M αs Bool) (m : MS αs ρ) : MS αs ρ := fun s => if h : ∃ n r, loopW mc m n s = some r then some (Classical.choose (Classical.choose_spec h)) else none
theorem loopW_more {mc : M αs Bool} {m : MS αs ρ} : ∀ (n : Nat) (s : Env αs) (r), loopW mc m n s = some r → loopW mc m (n + 1) s = some r
  | 0, _, _, h => by cases h
  | n + 1, s, r, h => by
    rw [loopW] at h ⊢
    obtain ⟨p, h1, h2⟩ := bindE h
    rw [h1]
    show (if p.1 = true then _ else _) = _
    by_cases hp : p.1 = true
    · rw [if_pos hp] at h2 ⊢
      obtain ⟨q, h3, h4⟩ := bindE h2
      rw [h3]
      obtain ⟨c, s2⟩ := q
      cases c with
      | nx => exact loopW_more n s2 r h4
      | ct => exact loopW_more n s2 r h4
      | bk => exact h4
      | rt _ => exact h4
    · rw [if_neg hp] at h2 ⊢
      exact h2
theorem loopW_le {mc : M αs Bool} {m : MS αs ρ} {n k : Nat} {s : Env αs} {r} (h : loopW mc m n s = some r) (hk : n ≤ k) : loopW mc m k s = some r := by
  induction k with
  | zero => cases Nat.le_zero.mp hk; exact h
  | succ k ih =>
    by_cases e : n = k + 1
    · subst e; exact h
    · exact loopW_more k s r (ih (by omega))
theorem sWhile_of {mc : M αs Bool} {m : MS αs ρ} {n : Nat} {s : Env αs} {r} (h : loopW mc m n s = some r) : sWhile mc m s = some r := by
  have hx : ∃ n r, loopW mc m n s = some r := ⟨n, r, h⟩
  unfold sWhile
  rw [dif_pos hx]
  have h2 := Classical.choose_spec (Classical.choose_spec hx)
  have h3 := loopW_le h2 (Nat.le_max_left _ n)
  have h4 := loopW_le h (Nat.le_max_right (Classical.choose hx) n)
  rw [h3] at h4
  exact h4
theorem sWhile_to {mc : M αs Bool} {m : MS αs ρ} {s : Env αs} {r} (h : sWhile mc m s = some r) : ∃ n, loopW mc m n s = some r := by
  unfold sWhile at h
  by_cases hx : ∃ n r, loopW mc m n s = some r
  · rw [dif_pos hx] at h
    have h2 := Classical.choose_spec (Classical.choose_spec hx)
    rw [Option.some.inj h] at h2
    exact ⟨_, h2⟩
  · rw [dif_neg hx] at h; cases h
theorem XS.while_ {mc : M αs Bool} {m : MS αs ρ} (hp : PassesOwn (model X.prog X.w) X.A X.env X.xe) (hc : XT X Γ1 c mc) (hb : XSs X ⟨P.R, P.Γr, Γ1⟩ Γ1 Γ1 body m) (w : Wk Γ Γ1) : XS X P Γ Γ1 (.While c body [] pos) (sWhile mc m) := by
  intro C s σ G H o k cc s' hm D fin
  obtain ⟨n0, e0⟩ := sWhile_to hm
  refine wS_of (ps_while hp pt_w pss_w) ?_
  refine ⟨fun n σ' H' => ∃ s2 G2 o2, Ok C Γ1 s2 σ' G2 H' o2 ∧ loopW mc m n s2 = some (cc, s'), ⟨n0, s, G, o, k.weak w, e0⟩, ?_⟩
  rintro n σ' H' ⟨s2, G2, o2, k2, e2⟩
  cases n with
  | zero => cases e2
  | succ n =>
    obtain ⟨⟨t, s3⟩, e3, e4⟩ := bindE e2
    refine hc C s2 σ' G2 H' o2 k2 t s3 e3 _ fun G3 H3 o3 k3 g3 kp => ?_
    cases t with
    | false =>
      cases e4
      exact fin σ' G3 H3 o3 k3
    | true =>
      obtain ⟨⟨c4, s4⟩, e5, e6⟩ := bindE e4
      refine ⟨fun σ4 H4 => ∃ s2 G2 o2, Ok C Γ1 s2 σ4 G2 H4 o2 ∧ loopW mc m n s2 = some (cc, s'), fun σ4 H4 q => ⟨n, Nat.lt_succ_self n, q⟩, ?_⟩
      refine hb C s3 σ' G3 H3 o3 k3 c4 s4 e5 _ ?_
      cases c4 with
      | nx => exact fun σ5 G5 H5 o5 k5 => ⟨s4, G5, o5, k5, e6⟩
      | ct => exact fun σ5 G5 H5 o5 k5 => ⟨s4, G5, o5, k5, e6⟩
      | bk => cases e6; exact fin
      | rt r => cases e6; exact fin
end
end Sm
/-! S7: comprehensions, lists of one's own, further statements. -/
namespace Sm
open PySem PySem.Spec L2
open Enc (enc)

theorem wipe_ne {σ : L2.St} {i : Nat} : ∀ {vs : List Nat}, i ∉ vs → (wipe σ vs)[i]? = σ[i]?
  | [], _ => rfl
  | v :: vs, h => by
    show ((wipe σ vs).set v none)[i]? = _
    rw [List.getElem?_set_ne (fun e => h (by rw [e]; exact List.mem_cons_self))]
    exact wipe_ne fun m => h (List.mem_cons_of_mem _ m)
section
variable {K : Fr} {C : C0} {αs : List Type} {Γ Γ' : RTs K αs} {s s' : Env αs} {σ σ' : L2.St} {G H G' H' : Hp} {o o' : Addr → Option Nat} {B : Addr → Prop}
/-- a temporary cell is changed -/
theorem Ok.touch (k : Ok C Γ s σ G H o) {d : Addr} {u : HO} (hG : G d = none) (ho : o d = none) (hf : C.M0 d ∨ C.H0 d = none) (hi : ∀ ob, H d = some ob → im ob = false) : Ok C Γ s σ G (upd H d u) o := by
  refine ⟨k.g, fun a ob e => ?_, k.new, fun a ob nm e => ?_, fun a e => ?_, fun a ob e i => ?_, fun a ha => ?_, k.len, fun α x y hx => ?_⟩
  · rw [upd_ne (fun z => by rw [z, hG] at e; cases e)]; exact k.gh a ob e
  · have : a ≠ d := fun z => by
      rw [z] at nm e
      rcases hf with q | q
      · exact nm q
      · rw [q] at e; cases e
    rw [upd_ne this]; exact k.fr a ob nm e
  · by_cases z : a = d
    · rw [z, upd_same]; simp
    · rw [upd_ne z]; exact k.dom a e
  · have h1 := k.imm a ob e i
    have : a ≠ d := fun z => by
      rw [z] at h1
      rw [hi ob h1] at i; cases i
    rw [upd_ne this]; exact h1
  · obtain ⟨h1, ⟨ob, h2, h3⟩, h4⟩ := k.own a ha
    have : a ≠ d := fun z => by rw [z, ho] at ha; exact ha rfl
    exact ⟨h1, ⟨ob, by rw [upd_ne this]; exact h2, h3⟩, h4⟩
  · obtain ⟨v, e, r⟩ := k.sl α x y hx
    refine ⟨v, e, (x.rt Γ).grow r (Ex.refl _) fun a ha => ?_⟩
    have ha' : o a = some x.idx := ha
    rw [upd_ne (fun z => by rw [z, ho] at ha'; cases ha')]
end

section
variable {X : Cx} {αs : List Type} {Γ Γ1 Γ2 Γ' Γt : RTs X.K αs} {α β γ ρ : Type} {e a b c tg iter elt : Expr} {pos : Pos}
def wTs (X : Cx) (ifs : List Expr) : TT := fun σ H Q => ∀ pins s, Inv X pins σ H s →
  wpAny (model X.prog X.w) X.A (forIn ifs true fun c r => if r = true then do let ok ← isTrue c X.env (eval c X.env); pure (ForInStep.yield ok) else pure (ForInStep.yield r)) (TP X pins σ Q) X.xe s
theorem pts_w {ifs : List Expr} : PTs X ifs (wTs X ifs) := ⟨fun pins s _ _ _ I h => h pins s I⟩
def XTs (X : Cx) {αs : List Type} (Γ : RTs X.K αs) (ifs : List Expr) (m : M αs Bool) : Prop :=
  ∀ (C : C0) (s : Env αs) (σ : L2.St) (G H : Hp) (o : Addr → Option Nat), Ok C Γ s σ G H o → ∀ (x : Bool) (s' : Env αs), m s = some (x, s') → ∀ Q : Bool → Hp → Prop,
    (∀ (G' H' : Hp) (o' : Addr → Option Nat), Ok C Γ s' σ G' H' o' → Ex G G' → Kp Γ s s' → Q x H') → wTs X ifs σ H Q
theorem XTs.nil : XTs X Γ [] (mC true) := by
  intro C s σ G H o k x s' hm Q q
  cases hm
  exact fun pins st I => pts_nil.run pins st σ H Q I (q G H o k (Ex.refl _) .refl)
theorem XTs.one {m : M αs Bool} (h : XT X Γ c m) : XTs X Γ [c] m := by
  intro C s σ G H o k x s' hm Q q
  exact fun pins st I => (pts_one pt_w).run pins st σ H Q I (h C s σ G H o k x s' hm Q q)
/-- what a target's names were ahead of a comprehension -/
structure Own (αs : List Type) (vs : List Nat) (f : α → Env αs → Env αs) where
  wp : Env αs → Env αs
  rs : Env αs → Env αs → Env αs
  wp_in : ∀ (β : Type) (x : Var αs β) (s : Env αs), x.idx ∈ vs → x.get (wp s) = none
  wp_out : ∀ (β : Type) (x : Var αs β) (s : Env αs), x.idx ∉ vs → x.get (wp s) = x.get s
  f_wp : ∀ (y : α) (s : Env αs), f y (wp s) = f y s
  f_out : ∀ (β : Type) (x : Var αs β) (y : α) (s : Env αs), x.idx ∉ vs → x.get (f y s) = x.get s
  rs_in : ∀ (β : Type) (x : Var αs β) (s s2 : Env αs), x.idx ∈ vs → x.get (rs s s2) = x.get s
  rs_out : ∀ (β : Type) (x : Var αs β) (s s2 : Env αs), x.idx ∉ vs → x.get (rs s s2) = x.get s2
theorem Var.set_set : ∀ {αs : List Type} {α : Type} (x : Var αs α) (a b : Option α) (s : Env αs), x.set a (x.set b s) = x.set a s
  | _, _, .vz, _, _, _ => rfl
  | _, _, .vs x, a, b, s => by
    show (s.1, x.set a (x.set b s.2)) = (s.1, x.set a s.2)
    rw [x.set_set]
theorem Var.set_comm : ∀ {αs : List Type} {α β : Type} (x : Var αs α) (y : Var αs β) (a : Option α) (b : Option β) (s : Env αs), x.idx ≠ y.idx → x.set a (y.set b s) = y.set b (x.set a s)
  | _, _, _, .vz, .vz, _, _, _, h => absurd rfl h
  | _, _, _, .vz, .vs _, _, _, _, _ => rfl
  | _, _, _, .vs _, .vz, _, _, _, _ => rfl
  | _, _, _, .vs x, .vs y, a, b, s, h => by
    show (s.1, x.set a (y.set b s.2)) = (s.1, y.set b (x.set a s.2))
    rw [set_comm x y a b s.2 (by simpa [idx] using h)]
def Own.one (x : Var αs α) : Own αs [x.idx] (fun (y : α) s => x.set (some y) s) where
  wp := fun s => x.set none s
  rs := fun s s2 => x.set (x.get s) s2
  wp_in := fun β y s h => by
    refine Var.split x (P := fun β y => y.idx ∈ [x.idx] → y.get (x.set none s) = none) (fun _ => x.get_set _ _) (fun β y hy h => ?_) β y h
    exact absurd (by simpa using h) hy
  wp_out := fun β y s h => Var.get_ne x y _ _ (by simpa using h)
  f_wp := fun y s => x.set_set _ _ _
  f_out := fun β y z s h => Var.get_ne x y _ _ (by simpa using h)
  rs_in := fun β y s s2 h => by
    refine Var.split x (P := fun β y => y.idx ∈ [x.idx] → y.get (x.set (x.get s) s2) = y.get s) (fun _ => x.get_set _ _) (fun β y hy h => ?_) β y h
    exact absurd (by simpa using h) hy
  rs_out := fun β y s s2 h => Var.get_ne x y _ _ (by simpa using h)
def Own.two (x : Var αs α) (z : Var αs β) (hne : x.idx ≠ z.idx) : Own αs [x.idx, z.idx] (fun (y : α × β) s => z.set (some y.2) (x.set (some y.1) s)) where
  wp := fun s => z.set none (x.set none s)
  rs := fun s s2 => z.set (z.get s) (x.set (x.get s) s2)
  wp_in := fun γ y s h => by
    refine Var.split z (P := fun β y => y.idx ∈ [x.idx, z.idx] → y.get (z.set none (x.set none s)) = none) (fun _ => z.get_set _ _) (fun β y hy h => ?_) γ y h
    rw [Var.get_ne z y _ _ hy]
    refine Var.split x (P := fun β y => y.idx ≠ z.idx → y.idx ∈ [x.idx, z.idx] → y.get (x.set none s) = none) (fun _ _ => x.get_set _ _) (fun β y hx hz h => ?_) β y hy h
    simp at h
    exact absurd h (by intro h; rcases h with h | h; exact hx h; exact hz h)
  wp_out := fun γ y s h => by
    simp at h
    rw [Var.get_ne z y _ _ h.2, Var.get_ne x y _ _ h.1]
  f_wp := fun y s => by
    rw [Var.set_comm x z _ _ _ hne, Var.set_set, Var.set_set]
  f_out := fun γ y w s h => by
    simp at h
    rw [Var.get_ne z y _ _ h.2, Var.get_ne x y _ _ h.1]
  rs_in := fun γ y s s2 h => by
    refine Var.split z (P := fun β y => y.idx ∈ [x.idx, z.idx] → y.get (z.set (z.get s) (x.set (x.get s) s2)) = y.get s) (fun _ => z.get_set _ _) (fun β y hy h => ?_) γ y h
    rw [Var.get_ne z y _ _ hy]
    refine Var.split x (P := fun β y => y.idx ≠ z.idx → y.idx ∈ [x.idx, z.idx] → y.get (x.set (x.get s) s2) = y.get s) (fun _ _ => x.get_set _ _) (fun β y hx hz h => ?_) β y hy h
    simp at h
    exact absurd h (by intro h; rcases h with h | h; exact hx h; exact hz h)
  rs_out := fun γ y s s2 h => by
    simp at h
    rw [Var.get_ne z y _ _ h.2, Var.get_ne x y _ _ h.1]
def loopC (f : α → Env αs → Env αs) (rs : Env αs → Env αs → Env αs) (mt : M αs Bool) (me : M αs β) : List α → Env αs → Option (List β × Env αs)
  | [], s => some ([], s)
  | x :: xs, s => (mt (f x s)).bind fun p => if p.1 = true then (me p.2).bind fun q => (loopC f rs mt me xs (rs s q.2)).bind fun r => some (q.1 :: r.1, r.2) else loopC f rs mt me xs (rs s p.2)
def mLc (mi : M αs (List α)) (f : α → Env αs → Env αs) (rs : Env αs → Env αs → Env αs) (mt : M αs Bool) (me : M αs β) : M αs (List β) := fun s => (mi s).bind fun p => if p.1.length ≤ 1000000 then loopC f rs mt me p.1 p.2 else none
/-- the reading of a comprehension, from its parts -/
theorem lc_read [Enc β] [PureE β] {R : RT X.K α} {mi : M αs (List α)} {f : α → Env αs → Env αs} {mt : M αs Bool} {me : M αs β} {vs : List Nat} {tgG : TG} {tT : TT} {tE : TE}
    (hi : XI X Γ tg iter R mi) (O : Own αs vs f) (hfix : ∀ (γ : Type) (x : Var αs γ), x.idx ∈ vs → (x.rt Γ).fix = true) (hΓ : ∀ (γ : Type) (x : Var αs γ), x.idx ∉ vs → x.rt Γt = x.rt Γ)
    (hg : ∀ (C : C0) (s : Env αs) (σ : L2.St) (G H : Hp) (o : Addr → Option Nat), Ok C Γ s σ G H o → ∀ (v : V) (y : α), R.shr G v y → ∀ Q : L2.St → Hp → Prop, (∀ (σ' : L2.St) (o' : Addr → Option Nat), Ok C Γt (f y s) σ' G H o' → (wipe σ' vs = wipe σ vs) → Q σ' H) → tgG v σ H Q)
    (ht : ∀ (C : C0) (s : Env αs) (σ : L2.St) (G H : Hp) (o : Addr → Option Nat), Ok C Γt s σ G H o → ∀ (x : Bool) (s' : Env αs), mt s = some (x, s') → ∀ Q : Bool → Hp → Prop, (∀ (G' H' : Hp) (o' : Addr → Option Nat), Ok C Γt s' σ G' H' o' → Ex G G' → Kp Γt s s' → Q x H') → tT σ H Q)
    (he : ∀ (C : C0) (s : Env αs) (σ : L2.St) (G H : Hp) (o : Addr → Option Nat), Ok C Γt s σ G H o → ∀ (x : β) (s' : Env αs), me s = some (x, s') → ∀ Q : VK, (∀ (v : V) (G' H' : Hp) (o' : Addr → Option Nat) (B : Addr → Prop), Ok C Γt s' σ G' H' o' → Ex G G' → Kp Γt s s' → (RT.dat X.K β).rel G' H' v x B → Tmp C B G' H' o' → Q v H') → tE σ H Q) :
    ∀ (C : C0) (s : Env αs) (σ : L2.St) (G H : Hp) (o : Addr → Option Nat), Ok C Γ s σ G H o → ∀ (x : List β) (s' : Env αs), mLc mi f O.rs mt me s = some (x, s') → ∀ Q : VK,
    (∀ (v : V) (G' H' : Hp) (o' : Addr → Option Nat) (B : Addr → Prop), Ok C Γ s' σ G' H' o' → Ex G G' → Kp Γ s s' → (RT.own X.K β).rel G' H' v x B → Tmp C B G' H' o' → Q v H') → tLc (wI X tg iter) tgG tT tE vs σ H Q := by
  intro C s σ G H o k ys sE hm Q q
  obtain ⟨⟨xs, s1⟩, e1, e2⟩ := bindE hm
  by_cases hz : xs.length ≤ 1000000
  case neg => rw [if_neg hz] at e2; cases e2
  rw [if_pos hz] at e2
  refine hi C s σ G H o k xs s1 e1 _ fun J G1 H1 o1 k1 g1 kp src D hD => ?_
  have GD : ∀ {G' H' : Hp} {o' : Addr → Option Nat} {s' : Env αs}, Ok (reC G1 H1 o1) Γ s' σ G' H' o' → True := fun _ => trivial
  have oD1 : o1 D = none := by
    cases z : o1 D with
    | none => rfl
    | some i =>
      obtain ⟨_, ⟨ob, h, _⟩, _⟩ := k1.own D (by rw [z]; simp)
      rw [hD] at h; cases h
  refine ⟨fun i n H' => n = xs.length - i ∧ i ≤ xs.length ∧ ∃ s2 G2 o2 acc zs rest, Ok (reC G1 H1 o1) Γ s2 σ G2 H' o2 ∧ Kp Γ s1 s2 ∧ G2 D = none ∧ o2 D = none ∧ H' D = some (.lst acc) ∧ acc.length ≤ i ∧ All2 (fun v x => Dq X.K G2 v (enc x)) acc zs ∧
      loopC f O.rs mt me (xs.drop i) s2 = some (rest, sE) ∧ ys = zs ++ rest, ⟨xs.length, by simp, Nat.zero_le _, s1, G1, o1, [], [], ys, k1.re.al (Al.my k1.gh hD), .refl, ?_, oD1, upd_same, Nat.le_refl _, trivial, e2, rfl⟩, ?_⟩
  · cases z : G1 D with
    | none => rfl
    | some u => rw [k1.gh D u z] at hD; cases hD
  rintro i n H' ⟨rfl, hi', s2, G2, o2, acc, zs, rest, k2, kp2, gD, oD, hacc, hlen, r2, e3, e4⟩
  by_cases hlt : i < xs.length
  · have hat : xs[i]? = some xs[i] := List.getElem?_eq_getElem hlt
    rw [List.drop_eq_getElem_cons hlt] at e3
    obtain ⟨⟨tb, s3⟩, e5, e6⟩ := bindE e3
    refine .inr ⟨src.go i _ H' hat (k2.g.trans k2.gh), fun H3 => ∃ s2 G2 o2 acc zs rest, Ok (reC G1 H1 o1) Γ s2 σ G2 H3 o2 ∧ Kp Γ s1 s2 ∧ G2 D = none ∧ o2 D = none ∧ H3 D = some (.lst acc) ∧ acc.length ≤ i + 1 ∧ All2 (fun v x => Dq X.K G2 v (enc x)) acc zs ∧
      loopC f O.rs mt me (xs.drop (i + 1)) s2 = some (rest, sE) ∧ ys = zs ++ rest, fun H3 z => ⟨xs.length - (i + 1), by omega, rfl, hlt, z⟩, fun x H3 yl => ?_⟩
    obtain ⟨G3, al, r⟩ := src.yld i _ G2 H' x H3 hat k2.g k2.gh yl
    have k3 := k2.al al
    have hacc3 : H3 D = some (.lst acc) := al.h D _ hacc
    have gD3 : G3 D = none := al.new D (by rw [hacc]; simp) gD
    -- the state within the block, as an entry of its own
    have kb : Ok (reC G3 H3 o2) Γ (O.wp s2) (wipe σ vs) G3 H3 o2 := by
      have kr := k3.re
      refine ⟨kr.g, kr.gh, kr.new, kr.fr, kr.dom, kr.imm, kr.own, by rw [wipe_length]; exact kr.len, fun γ y z hz => ?_⟩
      by_cases hy : y.idx ∈ vs
      · rw [O.wp_in γ y s2 hy] at hz; cases hz
      · rw [O.wp_out γ y s2 hy] at hz
        obtain ⟨v, e, rr⟩ := kr.sl γ y z hz
        exact ⟨v, by rw [wipe_ne hy]; exact e, rr⟩
    -- back to the frame
    have fin : ∀ {s4 : Env αs} {σ4 : L2.St} {G4 H4 : Hp} {o4 : Addr → Option Nat}, Ok (reC G3 H3 o2) Γt s4 σ4 G4 H4 o4 → wipe σ4 vs = wipe σ vs → Kp Γt (f xs[i] s2) s4 → H4 D = some (.lst acc) ∧ G4 D = none ∧ o4 D = none ∧ Kp Γ s1 (O.rs s2 s4) ∧ Ok (reC G1 H1 o1) Γ (O.rs s2 s4) σ G4 H4 o4 := by
      intro s4 σ4 G4 H4 o4 k4 hw kp4
      have h1 : H4 D = some (.lst acc) := k4.fr D _ (fun z => z oD) hacc3
      have h2 : G4 D = none := k4.new D (fun z => z oD) (by show H3 D ≠ none; rw [hacc3]; simp) gD3
      have h3 : o4 D = none := by
        cases z : o4 D with
        | none => rfl
        | some j =>
          rcases (k4.own D (by rw [z]; simp)).2.2 with w | w
          · exact absurd oD w
          · have w' : H3 D = none := w
            rw [hacc3] at w'; cases w'
      have kb4 := k3.back (show Ok (reC G3 H3 o2) Γt s4 σ4 G4 H4 o4 from k4)
      refine ⟨h1, h2, h3, fun γ y hy => ?_, ⟨kb4.g, kb4.gh, kb4.new, kb4.fr, kb4.dom, kb4.imm, kb4.own, k3.len, fun γ y z hz => ?_⟩⟩
      · by_cases hv : y.idx ∈ vs
        · rw [O.rs_in γ y _ _ hv]; exact kp2 γ y hy
        · rw [O.rs_out γ y _ _ hv, kp4 γ y (by rw [hΓ γ y hv]; exact hy), O.f_out γ y _ _ hv]; exact kp2 γ y hy
      · by_cases hv : y.idx ∈ vs
        · rw [O.rs_in γ y _ _ hv] at hz
          obtain ⟨v, e, rr⟩ := k3.sl γ y z hz
          exact ⟨v, e, (cpy_of (hfix γ y hv) _ _ _ _ _).mpr ((y.rt Γ).smono ((cpy_of (hfix γ y hv) _ _ _ _ _).mp rr) k4.g)⟩
        · rw [O.rs_out γ y _ _ hv] at hz
          obtain ⟨v, e, rr⟩ := kb4.sl γ y z hz
          rw [hΓ γ y hv] at rr
          refine ⟨v, ?_, rr⟩
          have e1 : (wipe σ4 vs)[y.idx]? = (wipe σ vs)[y.idx]? := by rw [hw]
          rw [wipe_ne hv, wipe_ne hv] at e1
          rw [← e1]; exact e
    refine hg _ (O.wp s2) (wipe σ vs) G3 H3 o2 kb x _ r _ fun σ4 o4 k4 hw => ?_
    rw [O.f_wp] at k4
    have ww : ∀ (τ : L2.St) (ns : List Nat), wipe (wipe τ ns) ns = wipe τ ns := by
      intro τ ns
      apply List.ext_getElem?
      intro j
      by_cases hj : j ∈ ns
      · have n1 : ∀ (τ : L2.St) (ns : List Nat), j ∈ ns → (wipe τ ns)[j]? = if j < τ.length then some none else none := by
          intro τ ns
          induction ns with
          | nil => intro h; cases h
          | cons n ns ih =>
            intro h
            show ((wipe τ ns).set n none)[j]? = _
            by_cases hn : n = j
            · subst hn
              rw [List.getElem?_set]
              simp [wipe_length]
            · rw [List.getElem?_set_ne hn]
              rcases List.mem_cons.mp h with h | h
              · exact absurd h.symm hn
              · exact ih h
        rw [n1 _ _ hj, n1 _ _ hj, wipe_length]
      · rw [wipe_ne hj]
    have hw : wipe σ4 vs = wipe σ vs := by rw [hw, ww]
    refine ⟨hw, ?_⟩
    refine ht _ _ σ4 G3 H3 o4 k4 tb s3 e5 _ fun G5 H5 o5 k5 g5 kp5 => ?_
    cases tb with
    | false =>
      obtain ⟨h1, h2, h3, h4, h5⟩ := fin k5 hw kp5
      exact ⟨_, G5, o5, acc, zs, rest, h5, h4, h2, h3, h1, Nat.le_succ_of_le hlen, r2.imp fun _ _ z => dq_mono (al.g.trans g5) z, e6, e4⟩
    | true =>
      obtain ⟨⟨y, s6⟩, e7, e8⟩ := bindE e6
      obtain ⟨⟨rest2, s7⟩, e9, e10⟩ := bindE e8
      cases e10
      show tE σ4 H5 _
      refine he _ s3 σ4 G5 H5 o5 k5 y s6 e7 _ fun v G6 H6 o6 B k6 g6 kp6 r6 t6 => ?_
      obtain ⟨h1, h2, h3, h4, h5⟩ := fin k6 hw (kp5.trans kp6)
      refine ⟨acc, h1, Nat.lt_of_le_of_lt (Nat.le_trans hlen (Nat.le_trans (Nat.le_of_lt hlt) hz)) (by decide), _, G6, o6, acc ++ [v], zs ++ [y], rest2, h5.touch h2 h3 (.inr hD) (fun ob e => by rw [h1] at e; cases e; rfl), h4, h2, h3, upd_same, ?_, ?_, e9, ?_⟩
      · rw [List.length_append]
        show acc.length + 1 ≤ i + 1
        omega
      · exact All2.app (r2.imp fun _ _ z => dq_mono ((al.g.trans g5).trans g6) z) ⟨r6, trivial⟩
      · rw [e4]; simp
  · have e : i = xs.length := by omega
    subst e
    rw [List.drop_length] at e3
    cases e3
    rw [List.append_nil] at e4
    subst e4
    refine .inl ⟨src.stop H' (k2.g.trans k2.gh), q (.ref D) G2 H' o2 (fun a => a = D) (k1.back k2) (g1.trans k2.g) (kp.trans kp2) ⟨D, acc, rfl, rfl, hacc, r2⟩ fun a ha => ?_⟩
    subst ha
    exact ⟨oD, gD, ⟨_, hacc, rfl⟩, k1.free (.inr hD)⟩
variable {ifs : List Expr} {scope : Scope} {own : List (Str × Nat)} {P : Pk X.K αs ρ}
theorem XE.lc [Enc β] [PureE β] {R : RT X.K α} {mi : M αs (List α)} {f : α → Env αs → Env αs} {mt : M αs Bool} {me : M αs β} (hc : X.calm = true) (hN : X.N.Nodup) (ok : BlkOk X.N X.env.scope scope own) (O : Own αs (own.map (·.2)) f)
    (hi : XI X Γ tg iter R mi) (hfix : ∀ (γ : Type) (x : Var αs γ), x.idx ∈ own.map (·.2) → (x.rt Γ).fix = true) (hΓ : ∀ (γ : Type) (x : Var αs γ), x.idx ∉ own.map (·.2) → x.rt Γt = x.rt Γ)
    (hg : ∀ (s : Shared) (H : Hp) (C : Addr) (cl : List (Str × Addr)) (fp : List Addr), XG (X.blk s H scope (compEnvC scope cl C X.env) fp) Γ Γt tg R (own.map (·.2)) f)
    (ht : ∀ (s : Shared) (H : Hp) (C : Addr) (cl : List (Str × Addr)) (fp : List Addr), XTs (X.blk s H scope (compEnvC scope cl C X.env) fp) Γt ifs mt)
    (he : ∀ (s : Shared) (H : Hp) (C : Addr) (cl : List (Str × Addr)) (fp : List Addr), XE (X.blk s H scope (compEnvC scope cl C X.env) fp) Γt elt (RT.dat X.K β) me) (hs : ∀ x, foldedSetIterable iter X.env x = pure x := by intro _; rfl) :
    XE X Γ (.ListComp elt [⟨tg, iter, ifs, 0⟩] scope pos) (RT.own X.K β) (mLc mi f O.rs mt me) := by
  intro C s σ G H o k x s' hm Q q
  refine wE_of (pe_lc (wi := wI X tg iter) (g := fun v σ H Q => ∀ s H' C cl fp, wG (X.blk s H' scope (compEnvC scope cl C X.env) fp) tg v σ H Q) (tt := fun σ H Q => ∀ s H' C cl fp, wTs (X.blk s H' scope (compEnvC scope cl C X.env) fp) ifs σ H Q) (te := fun σ H Q => ∀ s H' C cl fp, wE (X.blk s H' scope (compEnvC scope cl C X.env) fp) elt σ H Q) hc hN pi_w ok
    (fun s H' C cl fp => ⟨fun pins st σ H v u Q I r h => h s H' C cl fp pins st u I r⟩) (fun s H' C cl fp => ⟨fun pins st σ H Q I h => h s H' C cl fp pins st I⟩) (fun s H' C cl fp => ⟨fun pins st σ H Q I h => h s H' C cl fp pins st I⟩) hs) ?_
  exact lc_read hi O hfix hΓ (fun C s σ G H o k v y r Q q s' H' C' cl fp => hg s' H' C' cl fp C s σ G H o k v y r Q q) (fun C s σ G H o k x s2 e Q q s' H' C' cl fp => ht s' H' C' cl fp C s σ G H o k x s2 e Q q) (fun C s σ G H o k x s2 e Q q s' H' C' cl fp => he s' H' C' cl fp C s σ G H o k x s2 e Q q) C s σ G H o k x s' hm Q q
/-- name = [..] -/
theorem XS.asgLc [Enc β] [PureE β] {R : RT X.K α} {mi : M αs (List α)} {f : α → Env αs → Env αs} {mt : M αs Bool} {me : M αs β} {z : Var αs (List β)} {n : Str} {py spos : Pos} (hc : X.calm = true) (hN : X.N.Nodup) (ok : BlkOk X.N X.env.scope scope own) (O : Own αs (own.map (·.2)) f)
    (hz : X.N[z.idx]? = some n) (hl : X.env.scope.names.lookup n = some .local) (hsw : swapsWith (.ListComp elt [⟨tg, iter, ifs, 0⟩] scope pos) (some (.Name n py)) spos.line X.env = pure true)
    (hi : XI X Γ tg iter R mi) (hfix : ∀ (γ : Type) (x : Var αs γ), x.idx ∈ own.map (·.2) → (x.rt Γ).fix = true) (hΓ : ∀ (γ : Type) (x : Var αs γ), x.idx ∉ own.map (·.2) → x.rt Γt = x.rt Γ)
    (hg : ∀ (s : Shared) (H : Hp) (C : Addr) (cl : List (Str × Addr)) (fp : List Addr), XG (X.blk s H scope (compEnvC scope cl C X.env) fp) Γ Γt tg R (own.map (·.2)) f)
    (ht : ∀ (s : Shared) (H : Hp) (C : Addr) (cl : List (Str × Addr)) (fp : List Addr), XTs (X.blk s H scope (compEnvC scope cl C X.env) fp) Γt ifs mt)
    (he : ∀ (s : Shared) (H : Hp) (C : Addr) (cl : List (Str × Addr)) (fp : List Addr), XE (X.blk s H scope (compEnvC scope cl C X.env) fp) Γt elt (RT.dat X.K β) me) (hs : ∀ x, foldedSetIterable iter X.env x = pure x := by intro _; rfl) :
    XS X P Γ (z.setR (RT.own X.K β) Γ) (.Assign [.Name n py] (.ListComp elt [⟨tg, iter, ifs, 0⟩] scope pos) spos) (sAsg z (mLc mi f O.rs mt me)) := by
  intro C s σ G H o k cc sE hm D fin
  obtain ⟨⟨x, s'⟩, e1, e2⟩ := bindE hm
  cases e2
  refine wS_of (ps_setLc (wi := wI X tg iter) (g := fun v σ H Q => ∀ s H' C cl fp, wG (X.blk s H' scope (compEnvC scope cl C X.env) fp) tg v σ H Q) (tt := fun σ H Q => ∀ s H' C cl fp, wTs (X.blk s H' scope (compEnvC scope cl C X.env) fp) ifs σ H Q) (te := fun σ H Q => ∀ s H' C cl fp, wE (X.blk s H' scope (compEnvC scope cl C X.env) fp) elt σ H Q) hc hN hz hl hsw pi_w ok
    (fun s H' C cl fp => ⟨fun pins st σ H v u Q I r h => h s H' C cl fp pins st u I r⟩) (fun s H' C cl fp => ⟨fun pins st σ H Q I h => h s H' C cl fp pins st I⟩) (fun s H' C cl fp => ⟨fun pins st σ H Q I h => h s H' C cl fp pins st I⟩) hs) ?_
  refine lc_read hi O hfix hΓ (fun C s σ G H o k v y r Q q s' H' C' cl fp => hg s' H' C' cl fp C s σ G H o k v y r Q q) (fun C s σ G H o k x s2 e Q q s' H' C' cl fp => ht s' H' C' cl fp C s σ G H o k x s2 e Q q) (fun C s σ G H o k x s2 e Q q s' H' C' cl fp => he s' H' C' cl fp C s σ G H o k x s2 e Q q) C s σ G H o k x s' e1 _ fun v G1 H1 o1 B k1 g1 kp r t => ?_
  obtain ⟨o2, k2⟩ := k1.set z _ r t
  exact fin _ G1 H1 o2 k2
end
end Sm
/-! S8: lists of one's own changed, further assignments. -/
namespace Sm
open PySem PySem.Spec L2
open Enc (enc)

section
variable {K : Fr} {C : C0} {αs : List Type} {Γ Γ' : RTs K αs} {s s' : Env αs} {σ σ' : L2.St} {G H G' H' : Hp} {o o' : Addr → Option Nat} {B : Addr → Prop} {α : Type}
/-- a cell of the slot x is changed -/
theorem Ok.mut (k : Ok C Γ s σ G H o) (x : Var αs α) {p : Addr} {u : HO} {v : V} {y : α} (hσ : σ[x.idx]? = some (some v)) (ho : o p = some x.idx) (hu : im u = false) (hr : (x.rt Γ).rel G (upd H p u) v y (fun a => o a = some x.idx)) :
    Ok C Γ (x.set (some y) s) σ G (upd H p u) o := by
  obtain ⟨hG, ⟨ob0, hp, hi⟩, hf⟩ := k.own p (by rw [ho]; simp)
  refine ⟨k.g, fun a ob e => ?_, k.new, fun a ob nm e => ?_, fun a e => ?_, fun a ob e i => ?_, fun a ha => ?_, k.len, Var.split x (fun z hz => ?_) fun β z hz w hw => ?_⟩
  · rw [upd_ne (fun z => by rw [z, hG] at e; cases e)]; exact k.gh a ob e
  · have : a ≠ p := fun z => by
      rw [z] at nm e
      rcases hf with q | q
      · exact nm q
      · rw [q] at e; cases e
    rw [upd_ne this]; exact k.fr a ob nm e
  · by_cases z : a = p
    · rw [z, upd_same]; simp
    · rw [upd_ne z]; exact k.dom a e
  · have h1 := k.imm a ob e i
    have : a ≠ p := fun z => by
      rw [z, hp] at h1
      cases h1; rw [hi] at i; cases i
    rw [upd_ne this]; exact h1
  · obtain ⟨h1, h2, h4⟩ := k.own a ha
    refine ⟨h1, ?_, h4⟩
    by_cases z : a = p
    · rw [z]; exact ⟨u, upd_same, hu⟩
    · rw [upd_ne z]; exact h2
  · rw [Var.get_set] at hz
    cases hz
    exact ⟨v, hσ, hr⟩
  · rw [Var.get_ne x z _ _ hz] at hw
    obtain ⟨v', e, r⟩ := k.sl β z w hw
    refine ⟨v', e, (z.rt Γ).grow r (Ex.refl _) fun a ha => ?_⟩
    have ha' : o a = some z.idx := ha
    rw [upd_ne (fun q => by rw [q, ho] at ha'; exact hz (Option.some.inj ha').symm)]
end

/-! ### the entry value kept -/
section
variable {K : Fr} {α β : Type}
def RT.at (v0 : V) (R : RT K α) : RT K α where
  rel := fun G H v x A => v = v0 ∧ R.rel G H v x A
  shr := fun G v x => v = v0 ∧ R.shr G v x
  fix := R.fix
  grow := fun ⟨e, h⟩ g f => ⟨e, R.grow h g f⟩
  view := fun ⟨e, h⟩ g f => ⟨e, R.view h g f⟩
  smono := fun ⟨e, h⟩ g => ⟨e, R.smono h g⟩
  wid := fun ⟨e, h⟩ f => ⟨e, R.wid h f⟩
  ok := by
    rcases R.ok with ⟨f, k⟩ | ⟨f, k⟩
    · exact .inl ⟨f, fun G H v x A => ⟨fun h => ⟨h.1, (k G H v x A).mp h.2⟩, fun h => ⟨h.1, (k G H v x A).mpr h.2⟩⟩⟩
    · exact .inr ⟨f, fun G G' H v x A h e => ⟨h.1, k G G' H v x A h.2 e⟩⟩
/-- R is S at the values it speaks of -/
structure Sub (R S : RT K α) : Prop where
  to : ∀ {G H : Hp} {v : V} {x : α} {A : Addr → Prop}, R.rel G H v x A → S.rel G H v x A
  of : ∀ {G H G' H' : Hp} {v : V} {x y : α} {A B : Addr → Prop}, R.rel G H v x A → S.rel G' H' v y B → R.rel G' H' v y B
  fx : R.fix = S.fix
theorem Sub.refl {R : RT K α} : Sub R R := ⟨fun h => h, fun _ h => h, rfl⟩
theorem Sub.at {v0 : V} {R : RT K α} : Sub (RT.at v0 R) R := ⟨fun h => h.2, fun h k => ⟨h.1, k⟩, rfl⟩
end

section
variable {X : Cx} {αs : List Type} {Γ Γ1 Γ2 Γ' Γt : RTs X.K αs} {α β γ ρ : Type} {e e2 i a b c tg : Expr} {pos pos' pn : Pos} {P : Pk X.K αs ρ} {n n' : Str}
noncomputable def setAt {α : Type} : List α → Int → α → Option (List α) := (Seal fun (xs : List α) (i : Int) (v : α) => (ixN xs.length i).map fun j => xs.set j v).1
theorem setAt_eq {α : Type} (xs : List α) (i : Int) (v : α) : setAt xs i v = (ixN xs.length i).map fun j => xs.set j v := by unfold setAt; rw [(Seal _).2]
noncomputable def sSetI (x : Var αs (List α)) (mi : M αs Int) (me : M αs α) : MS αs ρ := fun s => (me s).bind fun p => (x.get p.2).bind fun _ => (mi p.2).bind fun q => (x.get q.2).bind fun xs => (setAt xs q.1 p.1).bind fun ys => some (.nx, x.set (some ys) q.2)
/-- what an own slot holds -/
theorem Ok.ownAt [Enc α] [PureE α] {C : C0} {s : Env αs} {σ : L2.St} {G H : Hp} {o : Addr → Option Nat} (k : Ok C Γ s σ G H o) {x : Var αs (List α)} (hx : Sub (x.rt Γ) (RT.own X.K α)) {xs : List α} (h : x.get s = some xs) :
    ∃ p vs, σ[x.idx]? = some (some (.ref p)) ∧ o p = some x.idx ∧ H p = some (.lst vs) ∧ All2 (fun v x => Dq X.K G v (enc x)) vs xs ∧ (x.rt Γ).rel G H (.ref p) xs (fun a => o a = some x.idx) := by
  obtain ⟨v, e, r⟩ := k.sl _ x xs h
  obtain ⟨p, vs, rfl, hp, hh, hr⟩ := hx.to r
  exact ⟨p, vs, e, hp, hh, hr, r⟩
theorem XS.setI [Enc α] [PureE α] {x : Var αs (List α)} {mi : M αs Int} {me : M αs α} (hpe : PE X (.Name n pn) (tVar x.idx)) (hx : Sub (x.rt Γ) (RT.own X.K α)) (he : XE X Γ e (RT.dat X.K α) me) (hi : XE X Γ i (RT.dat X.K Int) mi)
    (hg : PG X (.Subscript (.Name n pn) i pos') (gSub (tVar x.idx) (wE X i) rSetL) := by exact pg_sub (pv _) pe_w set_list)
    (hs : swapsWithSole [.Subscript (.Name n pn) i pos'] e pos.line X.env = pure false := by rfl) (hw : swappedStores [.Subscript (.Name n pn) i pos'] e X.env = pure none := by rfl)
    (h1 : (assignEach [.Subscript (.Name n pn) i pos'] X.env).map (·.2) = [assign (.Subscript (.Name n pn) i pos') X.env] := by rfl) :
    XS X P Γ Γ (.Assign [.Subscript (.Name n pn) i pos'] e pos) (sSetI x mi me) := by
  intro C s σ G H o k cc sE hm D fin
  obtain ⟨⟨v, s1⟩, e1, e2⟩ := bindE hm
  obtain ⟨xs0, e0, e2⟩ := bindE e2
  obtain ⟨⟨j, s2⟩, e3, e4⟩ := bindE e2
  obtain ⟨xs, e5, e6⟩ := bindE e4
  obtain ⟨ys, e7, e8⟩ := bindE e6
  cases e8
  refine wS_of (ps_asg pe_w hg hs hw h1) ?_
  refine he C s σ G H o k v s1 e1 _ fun w G1 H1 o1 B k1 g1 kp1 r1 t1 => ?_
  obtain ⟨p0, _, h0, _⟩ := k1.ownAt hx e0
  refine ⟨_, h0, ?_⟩
  refine hi C s1 σ G1 H1 o1 k1 j s2 e3 _ fun u G2 H2 o2 B2 k2 g2 kp2 r2 t2 => ?_
  cases dq_int r2
  obtain ⟨p, vs, h1, h2, h3, h4, h9⟩ := k2.ownAt hx e5
  rw [h0] at h1; cases h1
  rw [setAt_eq] at e7
  obtain ⟨jn, h5, h6⟩ := Option.map_eq_some_iff.mp e7
  subst h6
  refine ⟨p0, vs, j, jn, rfl, rfl, h3, by rw [h4.len]; exact h5, ?_⟩
  exact fin σ G2 _ o2 (k2.mut x h0 h2 rfl (hx.of h9 ⟨p0, _, rfl, h2, upd_same, All2.set (P := fun v x => Dq X.K G2 v (enc x)) (dq_mono g2 r1) jn h4⟩))
/-- x.append(e) -/
def sApp (x : Var αs (List α)) (me : M αs α) : MS αs ρ := fun s => (x.get s).bind fun _ => (me s).bind fun p => (x.get p.2).bind fun xs => if xs.length < 1000000 then some (.nx, x.set (some (xs ++ [p.1])) p.2) else none
theorem XS.app [Enc α] [PureE α] {x : Var αs (List α)} {me : M αs α} {apos cpos : Pos} (hpe : PE X (.Name n pn) (tVar x.idx)) (hx : Sub (x.rt Γ) (RT.own X.K α)) (he : XE X Γ e (RT.dat X.K α) me)
    (hp : PE X (.Call (.Attribute (.Name n pn) "append" apos) [e] [] cpos) (tBM X.K "list" rAppend (tVar x.idx) (tCons (wE X e) tNil)) := by exact pe_bm PySem.F.plainAttrs_list PySem.F.slot_list_append PySem.F.type_list_append mt_append (pv _) (pa_cons pe_w pa_nil))
    (hs : swapsWith (.Call (.Attribute (.Name n pn) "append" apos) [e] [] cpos) none pos.line X.env = pure false := by rfl) : XS X P Γ Γ (.Expr (.Call (.Attribute (.Name n pn) "append" apos) [e] [] cpos) pos) (sApp x me) := by
  intro C s σ G H o k cc sE hm D fin
  obtain ⟨xs0, e0, e2⟩ := bindE hm
  obtain ⟨⟨v, s1⟩, e1, e2⟩ := bindE e2
  obtain ⟨xs, e5, e6⟩ := bindE e2
  have e7 := ite_some e6.symm.symm
  obtain ⟨hl, e8⟩ := e7
  cases e8
  refine wS_of (ps_expr hp hs) ?_
  obtain ⟨p0, vs0, h0, _, h00, _, _⟩ := k.ownAt hx e0
  refine ⟨_, h0, .inl ⟨rfl, _, SqL.of h00⟩, ?_⟩
  refine he C s σ G H o k v s1 e1 _ fun w G1 H1 o1 B k1 g1 kp1 r1 t1 => ?_
  obtain ⟨p, vs, h1, h2, h3, h4, h9⟩ := k1.ownAt hx e5
  rw [h0] at h1; cases h1
  refine ⟨p0, vs, w, rfl, rfl, h3, by rw [h4.len]; exact Nat.lt_trans hl (by decide), ?_⟩
  exact fin σ G1 _ o1 (k1.mut x h0 h2 rfl (hx.of h9 ⟨p0, _, rfl, h2, upd_same, All2.app (P := fun v x => Dq X.K G1 v (enc x)) h4 ⟨r1, trivial⟩⟩))
/-- name op= e, ints -/
def sAug (x : Var αs Int) (f : Int → Int → Option Int) (me : M αs Int) : MS αs ρ := fun s => (x.get s).bind fun a => (me s).bind fun p => (f a p.1).bind fun c => some (.nx, x.set (some c) p.2)
theorem XS.aug {x : Var αs Int} {me : M αs Int} {op : Operator} {g : Int → Int → Int} {f : Int → Int → Option Int} (ho : PIp X op (ipI g)) (hf : ∀ i j z, f i j = some z → z = g i j) (hx : x.rt Γ = RT.dat X.K Int) (he : XE X Γ e (RT.dat X.K Int) me) (hN : X.N.Nodup) (hi : X.N[x.idx]? = some n) (hl : Loc X.env.scope n)
    (hfn : X.fn n = true ∨ X.env.scope.names.lookup n = some .local := by first | exact .inl rfl | exact .inr rfl) : XS X P Γ (x.setR (RT.dat X.K Int) Γ) (.AugAssign (.Name n pos') op e pos) (sAug x f me) := by
  intro C s σ G H o k cc sE hm D fin
  obtain ⟨a, e0, e2⟩ := bindE hm
  obtain ⟨⟨b, s1⟩, e1, e2⟩ := bindE e2
  obtain ⟨c, e3, e4⟩ := bindE e2
  cases e4
  obtain ⟨v, h0, r⟩ := k.sl _ x a e0
  rw [hx] at r
  cases dq_int r
  refine wS_of (ps_aug hN hi hl pe_w ho hfn) ⟨_, h0, ?_⟩
  refine he C s σ G H o k b s1 e1 _ fun w G1 H1 o1 B k1 g1 kp1 r1 t1 => ?_
  cases dq_int r1
  cases hf _ _ _ e3
  obtain ⟨o2, k2⟩ := k1.set x (RT.dat X.K Int) (v := .int (g a b)) (y := g a b) (B := fun _ => False) (show Dq X.K G1 _ (.int _) from .int _) fun _ h => h.elim
  exact ⟨a, b, rfl, rfl, fin _ G1 H1 o2 k2⟩
theorem XS.augAdd {x : Var αs Int} {me : M αs Int} (hx : x.rt Γ = RT.dat X.K Int) (he : XE X Γ e (RT.dat X.K Int) me) (hN : X.N.Nodup) (hi : X.N[x.idx]? = some n) (hl : Loc X.env.scope n)
    (hfn : X.fn n = true ∨ X.env.scope.names.lookup n = some .local := by first | exact .inl rfl | exact .inr rfl) : XS X P Γ (x.setR (RT.dat X.K Int) Γ) (.AugAssign (.Name n pos') .Add e pos) (sAug x iadd me) := XS.aug ip_add (fun _ _ _ h => (Option.some.inj h).symm) hx he hN hi hl hfn
/-- a target of any form -/
def sAsgG (f : α → Env αs → Env αs) (m : M αs α) : MS αs ρ := fun s => (m s).bind fun p => some (.nx, f p.1 p.2)
theorem XS.asgG {R : RT X.K α} {vs : List Nat} {f : α → Env αs → Env αs} {m : M αs α} (hR : R.fix = true) (he : XE X Γ e R m) (hg : XG X Γ Γ' tg R vs f)
    (hs : swapsWithSole [tg] e pos.line X.env = pure false := by rfl) (hw : swappedStores [tg] e X.env = pure none := by rfl) (h1 : (assignEach [tg] X.env).map (·.2) = [assign tg X.env] := by rfl) : XS X P Γ Γ' (.Assign [tg] e pos) (sAsgG f m) := by
  intro C s σ G H o k cc sE hm D fin
  obtain ⟨⟨y, s1⟩, e1, e2⟩ := bindE hm
  cases e2
  refine wS_of (ps_asg pe_w pg_w hs hw h1) ?_
  refine he C s σ G H o k y s1 e1 _ fun w G1 H1 o1 B k1 g1 kp1 r1 t1 => ?_
  exact hg C s1 σ G1 H1 o1 k1 w y ((cpy_of hR _ _ _ _ _).mp r1) _ fun σ' o' k' _ => fin σ' G1 H1 o' k'
/-- two expressions, each perhaps one's own -/
theorem two {R1 : RT X.K α} {R2 : RT X.K β} {m : M αs α} {l : M αs β} (h1 : XE X Γ e R1 m) (h2 : XE X Γ e2 R2 l) (C : C0) (s : Env αs) (σ : L2.St) (G H : Hp) (o : Addr → Option Nat) (k : Ok C Γ s σ G H o) (x : α) (s1 : Env αs) (y : β) (s2 : Env αs) (a1 : m s = some (x, s1)) (a2 : l s1 = some (y, s2))
    {Q : V → V → Hp → Prop} (q : ∀ (v u : V) (G' H' : Hp) (o' : Addr → Option Nat) (B B' : Addr → Prop), Ok C Γ s2 σ G' H' o' → Ex G G' → Kp Γ s s2 → R1.rel G' H' v x B → R2.rel G' H' u y B' → Tmp C B G' H' o' → Tmp C B' G' H' o' → (∀ a, B a → ¬ B' a) → Q v u H') :
    wE X e σ H fun v H1 => wE X e2 σ H1 fun u H2 => Q v u H2 := by
  refine h1 C s σ G H o k x s1 a1 _ fun v G1 H1 o1 B k1 g1 kp1 r1 t1 => ?_
  refine h2 _ s1 σ G1 H1 o1 k1.re y s2 a2 _ fun u G2 H2 o2 B2 k2 g2 kp2 r2 t2 => ?_
  have hb : ∀ a, B a → ∃ ob, H1 a = some ob ∧ H2 a = some ob ∧ im ob = false ∧ o2 a = none ∧ G2 a = none := fun a ha => by
    obtain ⟨h1, h2, ⟨ob, h3, h4⟩, h5⟩ := t1 a ha
    have n : ¬ (reC G1 H1 o1).M0 a := fun z => z h1
    refine ⟨ob, h3, k2.fr a ob n h3, h4, ?_, k2.new a n (by show H1 a ≠ none; rw [h3]; simp) h2⟩
    cases z : o2 a with
    | none => rfl
    | some j =>
      rcases (k2.own a (by rw [z]; simp)).2.2 with w | w
      · exact absurd h1 w
      · have w' : H1 a = none := w
        rw [h3] at w'; cases w'
  refine q v u G2 H2 o2 B B2 (k1.back k2) (g1.trans g2) (kp1.trans kp2) (R1.grow r1 g2 fun a ha => ?_) r2 (fun a ha => ?_) (Tmp.back k1 t2) fun a ha hb2 => ?_
  · obtain ⟨ob, h3, h4, _⟩ := hb a ha
    rw [h3, h4]
  · obtain ⟨ob, h3, h4, h5, h6, h7⟩ := hb a ha
    exact ⟨h6, h7, ⟨ob, h4, h5⟩, (t1 a ha).2.2.2⟩
  · obtain ⟨ob, h3, _⟩ := hb a ha
    rcases (t2 a hb2).2.2.2 with w | w
    · exact w (t1 a ha).1
    · have w' : H1 a = none := w
      rw [h3] at w'; cases w'
/-- a, b = e, e2 -/
def sPar (x : Var αs α) (y : Var αs β) (m : M αs α) (l : M αs β) : MS αs ρ := fun s => (m s).bind fun p => (l p.2).bind fun q => some (.nx, y.set (some q.1) (x.set (some p.1) q.2))
theorem XS.par {R1 : RT X.K α} {R2 : RT X.K β} {m : M αs α} {l : M αs β} {x : Var αs α} {y : Var αs β} {px py pt pt2 : Pos} {kt k2} (hc : X.calm = true) (hN : X.N.Nodup) (hi : X.N[x.idx]? = some n) (hj : X.N[y.idx]? = some n') (hij : x.idx ≠ y.idx)
    (hx : X.env.scope.names.lookup n = some .local) (hy : X.env.scope.names.lookup n' = some .local) (h1 : XE X Γ e R1 m) (h2 : XE X Γ e2 R2 l)
    (hw : swappedStores [.Tuple [.Name n px, .Name n' py] kt pt] (.Tuple [e, e2] k2 pt2) X.env = pure (some [n, n']))
    (hp : PA X [e, e2] (tCons (wE X e) (tCons (wE X e2) tNil)) := by exact pa_cons pe_w (pa_cons pe_w pa_nil))
    (hs : swapsWithSole [.Tuple [.Name n px, .Name n' py] kt pt] (.Tuple [e, e2] k2 pt2) pos.line X.env = pure false := by rfl) :
    XS X P Γ (y.setR R2 (x.setR R1 Γ)) (.Assign [.Tuple [.Name n px, .Name n' py] kt pt] (.Tuple [e, e2] k2 pt2) pos) (sPar x y m l) := by
  intro C s σ G H o k cc sE hm D fin
  obtain ⟨⟨v1, s1⟩, e1, e3⟩ := bindE hm
  obtain ⟨⟨v2, s2⟩, e4, e5⟩ := bindE e3
  cases e5
  refine wS_of (ps_par hc hN hi hj hij hx hy hp hw hs) ?_
  refine two h1 h2 C s σ G H o k v1 s1 v2 s2 e1 e4 fun v u G1 H1 o1 B B' k1 g1 kp r1 r2 t1 t2 ds => ?_
  have ka := k1.set' x R1 r1 t1
  have kb := ka.set' y R2 r2 fun a ha => ⟨setO_none (fun hb => ds a hb ha) (t2 a ha).1, (t2 a ha).2⟩
  exact ⟨v, u, rfl, fin _ G1 H1 _ kb⟩
end
end Sm
/-! S9: defs and their calls. -/
namespace Sm
open PySem PySem.Spec L2
open Enc (enc)

/-! ### the parameters ahead of the other names -/
def nones : (ls : List Type) → Env ls
  | [] => ()
  | _ :: r => (none, nones r)
def ext (ls : List Type) : (ps : List Type) → Env ps → Env (ps ++ ls)
  | [], _ => nones ls
  | _ :: ps, s => (s.1, ext ls ps s.2)
def prj (ls : List Type) : (ps : List Type) → Env (ps ++ ls) → Env ps
  | [], _ => ()
  | _ :: ps, s => (s.1, prj ls ps s.2)
def Var.inj (ls : List Type) : {ps : List Type} → {α : Type} → Var ps α → Var (ps ++ ls) α
  | _, _, .vz => .vz
  | _, _, .vs x => .vs (x.inj ls)
theorem Var.inj_idx (ls : List Type) : ∀ {ps : List Type} {α : Type} (x : Var ps α), (x.inj ls).idx = x.idx
  | _, _, .vz => rfl
  | _, _, .vs x => congrArg (· + 1) (x.inj_idx ls)
theorem Var.inj_get (ls : List Type) : ∀ {ps : List Type} {α : Type} (x : Var ps α) (s : Env (ps ++ ls)), (x.inj ls).get s = x.get (prj ls ps s)
  | _, _, .vz, _ => rfl
  | _, _, .vs x, s => x.inj_get ls s.2
theorem prj_ext (ls : List Type) : ∀ (ps : List Type) (s : Env ps), prj ls ps (ext ls ps s) = s
  | [], _ => rfl
  | _ :: ps, s => congrArg (Prod.mk s.1) (prj_ext ls ps s.2)
theorem nones_get : ∀ {ls : List Type} {α : Type} (x : Var ls α), x.get (nones ls) = none
  | _, _, .vz => rfl
  | _, _, .vs x => nones_get x
theorem Var.inj_or (ls : List Type) : ∀ (ps : List Type) {α : Type} (y : Var (ps ++ ls) α) (s : Env ps), (∃ x : Var ps α, y = x.inj ls) ∨ y.get (ext ls ps s) = none
  | [], _, y, _ => .inr (nones_get y)
  | _ :: ps, _, .vz, _ => .inl ⟨.vz, rfl⟩
  | _ :: ps, _, .vs y, s => by
    rcases Var.inj_or ls ps y s.2 with ⟨x, rfl⟩ | h
    · exact .inl ⟨.vs x, rfl⟩
    · exact .inr h

/-! ### what a def is worth -/
structure Fs (K : Fr) where
  ps : List Type
  Γp : RTs K ps
  Γo : RTs K ps
  ρ : Type
  R : RT K ρ
  f : Env ps → Option (ρ × Env ps)
def spF {K : Fr} (F : Fs K) : Sp := fun vs H Q _ => ∃ (G : Hp) (o : Addr → Option Nat) (s : Env F.ps) (r : F.ρ) (s' : Env F.ps), Ok (reC G H o) F.Γp s (vs.map some) G H o ∧ F.f s = some (r, s') ∧
  ∀ (v : V) (G' H' : Hp) (o' : Addr → Option Nat) (B : Addr → Prop), Ok (reC G H o) F.Γo s' (vs.map some) G' H' o' → F.R.rel G' H' v r B → Tmp (reC G H o) B G' H' o' → Q v H'
theorem spF_len {K : Fr} {F : Fs K} {vs : List V} {H : Hp} {Q : VK} {E : XK} (h : spF F vs H Q E) : vs.length = F.ps.length := by
  obtain ⟨G, o, s, r, s', k, _⟩ := h
  have := k.len
  simpa using this
/-- the parameters' kinds within the body, at the entry values vs -/
def PIn {K : Fr} (ls : List Type) : (ps : List Type) → RTs K ps → RTs K (ps ++ ls) → List V → Prop
  | [], _, _, _ => True
  | α :: ps, Γ, Δ, vs => (∀ (v : V) (G H : Hp) (x : α) (A : Addr → Prop), vs.head? = some v → (show RT K α from Γ.1).rel G H v x A → (show RT K α from Δ.1).rel G H v x A) ∧ PIn ls ps Γ.2 Δ.2 vs.tail
def POut {K : Fr} (ls : List Type) : (ps : List Type) → RTs K ps → RTs K (ps ++ ls) → List V → Prop
  | [], _, _, _ => True
  | α :: ps, Γ, Δ, vs => (∀ (v u : V) (G H : Hp) (x : α) (A : Addr → Prop), vs.head? = some v → (show RT K α from Δ.1).rel G H u x A → (show RT K α from Γ.1).rel G H v x A) ∧ POut ls ps Γ.2 Δ.2 vs.tail
theorem PIn.get {K : Fr} {ls : List Type} : ∀ {ps : List Type} {Γ : RTs K ps} {Δ : RTs K (ps ++ ls)} {vs : List V}, PIn ls ps Γ Δ vs → ∀ {α : Type} (x : Var ps α) (v : V) (G H : Hp) (a : α) (A : Addr → Prop), vs[x.idx]? = some v → (x.rt Γ).rel G H v a A → ((x.inj ls).rt Δ).rel G H v a A
  | _, _, _, vs, h, _, .vz, v, G, H, a, A, e, r => h.1 v G H a A (by cases vs with
      | nil => cases e
      | cons u us => exact e) r
  | _, _, _, vs, h, _, .vs x, v, G, H, a, A, e, r => PIn.get h.2 x v G H a A (by cases vs with
      | nil => simp at e
      | cons u us => simpa [Var.idx] using e) r
theorem POut.get {K : Fr} {ls : List Type} : ∀ {ps : List Type} {Γ : RTs K ps} {Δ : RTs K (ps ++ ls)} {vs : List V}, POut ls ps Γ Δ vs → ∀ {α : Type} (x : Var ps α) (v u : V) (G H : Hp) (a : α) (A : Addr → Prop), vs[x.idx]? = some v → ((x.inj ls).rt Δ).rel G H u a A → (x.rt Γ).rel G H v a A
  | _, _, _, vs, h, _, .vz, v, u, G, H, a, A, e, r => h.1 v u G H a A (by cases vs with
      | nil => cases e
      | cons u us => exact e) r
  | _, _, _, vs, h, _, .vs x, v, u, G, H, a, A, e, r => POut.get h.2 x v u G H a A (by cases vs with
      | nil => simp at e
      | cons u us => simpa [Var.idx] using e) r
def bodyF {ps ls : List Type} {ρ : Type} (m : MS (ps ++ ls) ρ) : Env ps → Option (ρ × Env ps) := fun s => (m (ext ls ps s)).bind fun p => match p.1 with
  | .rt r => some (r, prj ls ps p.2)
  | _ => none
section
variable {Pr : Program} {w : World} {K : Fr} {mg : Str → Option Value} {base : Heap}
/-- THE RULE for a def -/
theorem fs_ok {x qual : Str} {st : Stmt} {f : Addr} {fd : FuncData} {N qs : List Str} {k : Nat} (F : Fun K x qual st f fd) (S : FnScope N qs (defScope st)) {ps ls : List Type} {ρ : Type} {Γp Γo : RTs K ps} {R : RT K ρ} {m : MS (ps ++ ls) ρ}
    (hq : qs.length = ps.length) (hN : N.length = (ps ++ ls).length)
    (hbody : ∀ (cdv : Value) (A : Around) (outer : List PySem.Env) (s : Shared) (H : Hp) (vs : List V) (E : XK), vs.length = ps.length → Room k (A.deeper (PyProof.Rows.envOfC qual (defScope st) s.heap.objs.size f cdv)) →
      ∃ (Γ0 Γr Γ1 : RTs K (ps ++ ls)), PIn ls ps Γp Γ0 vs ∧ POut ls ps Γo Γr vs ∧ XSs (cxOf CX0 Pr w K mg base N qual (defScope st) f cdv A outer s H E).nox ⟨R, Γr, Γ0⟩ Γ0 Γ1 (defBody st) m) :
    FnOk Pr w K mg base CX0 (k + 1) f fd qs (spF ⟨ps, Γp, Γo, ρ, R, bodyF m⟩) := by
  refine F.ok S (fun vs H Q E h => by rw [hq]; exact spF_len h) fun cdv A outer s H vs Q E hr h => ⟨_, pss_w, ?_⟩
  have hl := spF_len h
  obtain ⟨G, o, e, r, e', k0, hf, q⟩ := h
  obtain ⟨Γ0, Γr, Γ1, hin, hout, hb⟩ := hbody cdv A outer s H vs E hl hr
  obtain ⟨⟨c, s2⟩, e1, e2⟩ := bindE (show (m (ext ls ps e)).bind _ = some (r, e') from hf)
  have hs : ∀ i, i < vs.length → (L2.start N vs)[i]? = (vs.map some)[i]? := fun i hi => by
    unfold L2.start
    rw [List.getElem?_append_left (by simpa using hi)]
  have kS : Ok (reC G H o) Γ0 (ext ls ps e) (L2.start N vs) G H o := by
    refine ⟨k0.g, k0.gh, k0.new, k0.fr, k0.dom, k0.imm, k0.own, ?_, fun α y a hy => ?_⟩
    · unfold L2.start
      rw [List.length_append, List.length_map, List.length_replicate]
      have hl' : vs.length = ps.length := hl
      rw [List.length_append] at hN ⊢
      omega
    · rcases Var.inj_or ls ps y e with ⟨x, rfl⟩ | h
      · rw [Var.inj_get, prj_ext] at hy
        obtain ⟨v, h1, h2⟩ := k0.sl α x a hy
        have hx : x.idx < vs.length := by rw [hl]; exact x.lt
        rw [Var.inj_idx]
        refine ⟨v, by rw [hs _ hx]; exact h1, hin.get x v G H a _ ?_ h2⟩
        rw [List.getElem?_map] at h1
        cases z : vs[x.idx]? with
        | none => rw [z] at h1; cases h1
        | some u => rw [z] at h1; cases h1; rfl
      · rw [h] at hy; cases hy
  refine hb (reC G H o) (ext ls ps e) (L2.start N vs) G H o kS c s2 e1 _ ?_
  cases c with
  | nx => cases e2
  | bk => cases e2
  | ct => cases e2
  | rt r' =>
    cases e2
    intro σ' v G' H' o' B k' r1 t1
    refine q v G' H' o' B ⟨k'.g, k'.gh, k'.new, k'.fr, k'.dom, k'.imm, k'.own, k0.len, fun α x a hx => ?_⟩ r1 t1
    have hx' : (x.inj ls).get s2 = some a := by rw [Var.inj_get]; exact hx
    obtain ⟨u, h1, h2⟩ := k'.sl α (x.inj ls) a hx'
    have hxl : x.idx < vs.length := by rw [hl]; exact x.lt
    refine ⟨vs[x.idx], by rw [List.getElem?_map, List.getElem?_eq_getElem hxl]; rfl, ?_⟩
    rw [Var.inj_idx] at h2
    exact hout.get x _ u G' H' a _ (List.getElem?_eq_getElem hxl) h2
end

/-! ### calls -/
/-- how the arguments are given: by value, or a slot that the def may change -/
inductive Ks (αs : List Type) : List Type → Type 1
  | nil : Ks αs []
  | v {α : Type} {r : List Type} : Ks αs r → Ks αs (α :: r)
  | m {α : Type} {r : List Type} : Var αs α → Ks αs r → Ks αs (α :: r)
namespace Ks
def put {αs : List Type} : {ps : List Type} → Ks αs ps → Env ps → Env αs → Env αs
  | _, .nil, _, s => s
  | _, .v k, as, s => k.put as.2 s
  | _, .m x k, as, s => x.set as.1 (k.put as.2 s)
def at_ {αs : List Type} : {ps : List Type} → Ks αs ps → Nat → Option Nat
  | _, .nil, _ => none
  | _, .v k, i => (k.at_ i).map (· + 1)
  | _, .m x k, i => if x.idx = i then some 0 else (k.at_ i).map (· + 1)
def sl {αs : List Type} : {ps : List Type} → Ks αs ps → Nat → Option Nat
  | _, .nil, _ => none
  | _, .v _, 0 => none
  | _, .v k, j + 1 => k.sl j
  | _, .m x _, 0 => some x.idx
  | _, .m _ k, j + 1 => k.sl j
def ixs {αs : List Type} : {ps : List Type} → Ks αs ps → List Nat
  | _, .nil => []
  | _, .v k => k.ixs
  | _, .m x k => x.idx :: k.ixs
end Ks
/-- what stands behind the evaluated arguments -/
def AOk {K : Fr} {αs : List Type} (Γ : RTs K αs) (s : Env αs) (σ : L2.St) (G : Hp) : {ps : List Type} → Ks αs ps → RTs K ps → Env ps → List V → Prop
  | _, .nil, _, _, vs => vs = []
  | α :: _, .v k, Γp, as, vs => ∃ v r, vs = v :: r ∧ (show RT K α from Γp.1).fix = true ∧ (∀ a : α, as.1 = some a → (show RT K α from Γp.1).shr G v a) ∧ AOk Γ s σ G k Γp.2 as.2 r
  | α :: _, .m x k, Γp, as, vs => ∃ v r, vs = v :: r ∧ Sub (x.rt Γ) (show RT K α from Γp.1) ∧ (x.rt Γ).fix = false ∧ σ[x.idx]? = some (some v) ∧ (∃ a, x.get s = some a ∧ as.1 = some a) ∧ AOk Γ s σ G k Γp.2 as.2 r
section
variable {X : Cx} {αs : List Type} {Γ Γ1 Γ2 Γ' Γt : RTs X.K αs} {α β γ ρ : Type} {e a b c : Expr} {es : List Expr} {pos : Pos}
def XA (X : Cx) {αs : List Type} (Γ : RTs X.K αs) (es : List Expr) {ps : List Type} (k : Ks αs ps) (Γp : RTs X.K ps) (m : M αs (Env ps)) : Prop :=
  ∀ (C : C0) (s : Env αs) (σ : L2.St) (G H : Hp) (o : Addr → Option Nat), Ok C Γ s σ G H o → ∀ (as : Env ps) (s' : Env αs), m s = some (as, s') → ∀ Q : List V → Hp → Prop,
    (∀ (vs : List V) (G' H' : Hp) (o' : Addr → Option Nat), Ok C Γ s' σ G' H' o' → Ex G G' → Kp Γ s s' → AOk Γ s' σ G' k Γp as vs → Q vs H') → wA X es σ H Q
def aNil : M αs (Env []) := fun s => some ((), s)
def aV {r : List Type} (m : M αs α) (n : M αs (Env r)) : M αs (Env (α :: r)) := fun s => (m s).bind fun p => (n p.2).bind fun q => some ((some p.1, q.1), q.2)
def aM {r : List Type} (x : Var αs α) (n : M αs (Env r)) : M αs (Env (α :: r)) := fun s => (x.get s).bind fun _ => (n s).bind fun q => (x.get q.2).bind fun a => some ((some a, q.1), q.2)
theorem XA.nil : XA X Γ [] .nil () aNil := by
  intro C s σ G H o k as s' hm Q q
  cases hm
  exact wA_of pa_nil (q [] G H o k (Ex.refl _) .refl rfl)
theorem XA.v {r : List Type} {k : Ks αs r} {Γp : RTs X.K r} {R : RT X.K α} {m : M αs α} {n : M αs (Env r)} (hR : R.fix = true) (he : XE X Γ e R m) (hr : XA X Γ es k Γp n) (hs : starEach (e :: es) X.env = (false, eval e X.env) :: starEach es X.env := by rfl) :
    XA X Γ (e :: es) (.v k) (R, Γp) (aV m n) := by
  intro C s σ G H o k0 as s' hm Q q
  obtain ⟨⟨x, s1⟩, e1, e2⟩ := bindE hm
  obtain ⟨⟨xs, s2⟩, e3, e4⟩ := bindE e2
  cases e4
  refine wA_of (pa_cons pe_w pa_w hs) ?_
  refine he C s σ G H o k0 x s1 e1 _ fun v G1 H1 o1 B k1 g1 kp r1 t1 => ?_
  refine hr C s1 σ G1 H1 o1 k1 xs _ e3 _ fun vs G2 H2 o2 k2 g2 kp2 r2 => ?_
  refine q (v :: vs) G2 H2 o2 k2 (g1.trans g2) (kp.trans kp2) ⟨v, vs, rfl, hR, fun y hy => ?_, r2⟩
  cases hy
  exact R.smono ((cpy_of hR _ _ _ _ _).mp r1) g2
theorem XA.m {r : List Type} {k : Ks αs r} {Γp : RTs X.K r} {R : RT X.K α} {x : Var αs α} {n : M αs (Env r)} {nm : Str} {pn : Pos} (hpe : PE X (.Name nm pn) (tVar x.idx)) (hS : Sub (x.rt Γ) R) (hf : (x.rt Γ).fix = false) (hr : XA X Γ es k Γp n)
    (hs : starEach (.Name nm pn :: es) X.env = (false, eval (.Name nm pn) X.env) :: starEach es X.env := by rfl) : XA X Γ (.Name nm pn :: es) (.m x k) (R, Γp) (aM x n) := by
  intro C s σ G H o k0 as s' hm Q q
  obtain ⟨x0, e1, e2⟩ := bindE hm
  obtain ⟨⟨xs, s2⟩, e3, e4⟩ := bindE e2
  obtain ⟨y0, e5, e6⟩ := bindE e4
  cases e6
  obtain ⟨v, h0, _⟩ := k0.sl _ x x0 e1
  refine wA_of (pa_cons hpe pa_w hs) ⟨v, h0, ?_⟩
  exact hr C s σ G H o k0 xs _ e3 _ fun vs G2 H2 o2 k2 g2 kp2 r2 => q (v :: vs) G2 H2 o2 k2 g2 kp2 ⟨v, vs, rfl, hS, hf, h0, ⟨y0, e5, rfl⟩, r2⟩
theorem Var.idx_inj : ∀ {αs : List Type} {α : Type} (x y : Var αs α), x.idx = y.idx → x = y
  | _, _, .vz, .vz, _ => rfl
  | _, _, .vz, .vs y, h => by simp [Var.idx] at h
  | _, _, .vs x, .vz, h => by simp [Var.idx] at h
  | _, _, .vs x, .vs y, h => by rw [Var.idx_inj x y (by simpa [Var.idx] using h)]
theorem Ks.at_sl : ∀ {ps : List Type} (k : Ks αs ps) {i j : Nat}, k.at_ i = some j → k.sl j = some i
  | _, .nil, _, _, h => by cases h
  | _, .v k, i, j, h => by
    obtain ⟨j', h1, h2⟩ := Option.map_eq_some_iff.mp h
    subst h2
    exact k.at_sl h1
  | _, .m x k, i, j, h => by
    unfold Ks.at_ at h
    by_cases hx : x.idx = i
    · rw [if_pos hx] at h; cases h; subst hx; rfl
    · rw [if_neg hx] at h
      obtain ⟨j', h1, h2⟩ := Option.map_eq_some_iff.mp h
      subst h2
      exact k.at_sl h1
theorem Ks.sl_mem : ∀ {ps : List Type} (k : Ks αs ps) {i j : Nat}, k.sl j = some i → i ∈ k.ixs
  | _, .nil, _, _, h => by cases h
  | _, .v k, i, 0, h => by cases h
  | _, .v k, i, j + 1, h => k.sl_mem (show k.sl j = some i from h)
  | _, .m x k, i, 0, h => by cases h; exact List.mem_cons_self
  | _, .m x k, i, j + 1, h => List.mem_cons_of_mem _ (k.sl_mem (show k.sl j = some i from h))
theorem Ks.sl_at : ∀ {ps : List Type} (k : Ks αs ps) {i j : Nat}, k.ixs.Nodup → k.sl j = some i → k.at_ i = some j
  | _, .nil, _, _, _, h => by cases h
  | _, .v k, i, 0, _, h => by cases h
  | _, .v k, i, j + 1, nd, h => by
    show (k.at_ i).map (· + 1) = some (j + 1)
    rw [k.sl_at nd (show k.sl j = some i from h)]; rfl
  | _, .m x k, i, 0, _, h => by
    cases h
    show (if x.idx = x.idx then some 0 else _) = some 0
    rw [if_pos rfl]
  | _, .m x k, i, j + 1, nd, h => by
    have nd' := List.nodup_cons.mp nd
    have h' : k.sl j = some i := h
    show (if x.idx = i then some 0 else (k.at_ i).map (· + 1)) = some (j + 1)
    rw [if_neg (fun (e : x.idx = i) => nd'.1 (by rw [e]; exact k.sl_mem h')), k.sl_at nd'.2 h']; rfl
theorem Ks.put_get : ∀ {ps : List Type} (k : Ks αs ps) (as : Env ps) (s : Env αs) (β : Type) (y : Var αs β), (∃ z : Var ps β, k.sl z.idx = some y.idx ∧ y.get (k.put as s) = z.get as) ∨ (k.at_ y.idx = none ∧ y.get (k.put as s) = y.get s)
  | _, .nil, _, _, _, _ => .inr ⟨rfl, rfl⟩
  | _, .v k, as, s, β, y => by
    rcases k.put_get as.2 s β y with ⟨z, h1, h2⟩ | ⟨h1, h2⟩
    · exact .inl ⟨.vs z, h1, h2⟩
    · exact .inr ⟨by show (k.at_ y.idx).map (· + 1) = none; rw [h1]; rfl, h2⟩
  | _, .m x k, as, s, β, y => by
    refine Var.split x (P := fun β y => (∃ z : Var _ β, (Ks.m x k).sl z.idx = some y.idx ∧ y.get ((Ks.m x k).put as s) = z.get as) ∨ ((Ks.m x k).at_ y.idx = none ∧ y.get ((Ks.m x k).put as s) = y.get s)) (.inl ⟨.vz, rfl, x.get_set _ _⟩) (fun β y hy => ?_) β y
    rcases k.put_get as.2 s β y with ⟨z, h1, h2⟩ | ⟨h1, h2⟩
    · exact .inl ⟨.vs z, h1, by show y.get (x.set as.1 (k.put as.2 s)) = _; rw [Var.get_ne x y _ _ hy]; exact h2⟩
    · refine .inr ⟨?_, by show y.get (x.set as.1 (k.put as.2 s)) = _; rw [Var.get_ne x y _ _ hy]; exact h2⟩
      show (if x.idx = y.idx then some 0 else (k.at_ y.idx).map (· + 1)) = none
      rw [if_neg (Ne.symm hy), h1]; rfl
theorem AOk.len {K : Fr} {Γ : RTs K αs} {s : Env αs} {σ : L2.St} {G : Hp} : ∀ {ps : List Type} {k : Ks αs ps} {Γp : RTs K ps} {as : Env ps} {vs : List V}, AOk Γ s σ G k Γp as vs → vs.length = ps.length
  | _, .nil, _, _, _, h => by cases (show _ = [] from h); rfl
  | _, .v k, _, _, _, h => by
    obtain ⟨v, r, rfl, _, _, h⟩ := h
    simp [AOk.len h]
  | _, .m x k, _, _, _, h => by
    obtain ⟨v, r, rfl, _, _, _, _, h⟩ := h
    simp [AOk.len h]
theorem AOk.var {K : Fr} {Γ : RTs K αs} {s : Env αs} {σ : L2.St} {G : Hp} : ∀ {ps : List Type} {k : Ks αs ps} {Γp : RTs K ps} {as : Env ps} {vs : List V}, AOk Γ s σ G k Γp as vs → ∀ (β : Type) (z : Var ps β), ∃ v, vs[z.idx]? = some v ∧
    ((k.sl z.idx = none ∧ (z.rt Γp).fix = true ∧ ∀ b, z.get as = some b → (z.rt Γp).shr G v b) ∨ ∃ (x : Var αs β) (a : β), k.sl z.idx = some x.idx ∧ Sub (x.rt Γ) (z.rt Γp) ∧ (x.rt Γ).fix = false ∧ σ[x.idx]? = some (some v) ∧ x.get s = some a ∧ z.get as = some a)
  | _, .nil, _, _, _, _, _, z => nomatch z
  | _, .v k, _, _, _, h, β, z => by
    obtain ⟨v, r, rfl, h1, h2, h⟩ := h
    cases z with
    | vz => exact ⟨v, rfl, .inl ⟨rfl, h1, h2⟩⟩
    | vs z =>
      obtain ⟨u, h3, h4⟩ := AOk.var h β z
      exact ⟨u, by simpa [Var.idx] using h3, h4⟩
  | _, .m x k, _, _, _, h, β, z => by
    obtain ⟨v, r, rfl, h1, h2, h3, ⟨a, h4, h5⟩, h⟩ := h
    cases z with
    | vz => exact ⟨v, rfl, .inr ⟨x, a, rfl, h1, h2, h3, h4, h5⟩⟩
    | vs z =>
      obtain ⟨u, h3, h4⟩ := AOk.var h β z
      exact ⟨u, by simpa [Var.idx] using h3, h4⟩
/-- the slots that a def may change keep their kind -/
def OM {K : Fr} : {ps : List Type} → Ks αs ps → RTs K ps → RTs K ps → Prop
  | _, .nil, _, _ => True
  | _, .v k, Γ, Δ => OM k Γ.2 Δ.2
  | α :: _, .m _ k, Γ, Δ => (show RT K α from Δ.1) = Γ.1 ∧ OM k Γ.2 Δ.2
theorem OM.get {K : Fr} : ∀ {ps : List Type} {k : Ks αs ps} {Γ Δ : RTs K ps}, OM k Γ Δ → ∀ (β : Type) (z : Var ps β), k.sl z.idx ≠ none → z.rt Δ = z.rt Γ
  | _, .nil, _, _, _, _, z, _ => nomatch z
  | _, .v k, Γ, Δ, h, β, z, n => by
    cases z with
    | vz => exact absurd rfl n
    | vs z => exact OM.get (k := k) h β z n
  | _, .m x k, Γ, Δ, h, β, z, n => by
    cases z with
    | vz => exact h.1
    | vs z => exact OM.get (k := k) h.2 β z n
theorem Ok.call {C : C0} {s : Env αs} {σ : L2.St} {G H : Hp} {o : Addr → Option Nat} (k : Ok C Γ s σ G H o) {ps : List Type} (κ : Ks αs ps) (nd : κ.ixs.Nodup) {Γp Γo : RTs X.K ps} (om : OM κ Γp Γo) {as : Env ps} {vs : List V} (a : AOk Γ s σ G κ Γp as vs) :
    ∃ oc : Addr → Option Nat, Ok (reC G H oc) Γp as (vs.map some) G H oc ∧ ∀ (as' : Env ps) (G' H' : Hp) (o' : Addr → Option Nat), Ok (reC G H oc) Γo as' (vs.map some) G' H' o' →
      ∃ o2, Ok C Γ (κ.put as' s) σ G' H' o2 ∧ Kp Γ s (κ.put as' s) ∧ ∀ B, Tmp (reC G H oc) B G' H' o' → Tmp C B G' H' o2 := by
  have hoc : ∀ a, (o a).bind κ.at_ ≠ none → o a ≠ none := fun a h e => h (by rw [e]; rfl)
  have get_vs : ∀ {i : Nat} {v : V}, vs[i]? = some v → (vs.map some)[i]? = some (some v) := fun h => by rw [List.getElem?_map, h]; rfl
  have of_vs : ∀ {i : Nat} {v u : V}, vs[i]? = some v → (vs.map some)[i]? = some (some u) → u = v := fun h h' => by
    rw [List.getElem?_map, h] at h'; cases h'; rfl
  refine ⟨fun a => (o a).bind κ.at_, ⟨Ex.refl _, k.gh, fun _ _ _ h => h, fun _ _ _ h => h, fun _ h => h, fun _ _ h _ => h, fun b hb => ⟨(k.own b (hoc b hb)).1, (k.own b (hoc b hb)).2.1, .inl hb⟩, by rw [List.length_map]; exact a.len, fun β z b hz => ?_⟩, fun as' G' H' o' k' => ?_⟩
  · obtain ⟨v, h1, h2⟩ := a.var β z
    refine ⟨v, get_vs h1, ?_⟩
    rcases h2 with ⟨_, h3, h4⟩ | ⟨x, y, h3, h4, h5, h6, h7, h8⟩
    · exact (cpy_of h3 _ _ _ _ _).mpr (h4 b hz)
    · have hyb : y = b := by rw [h8] at hz; exact Option.some.inj hz
      subst hyb
      obtain ⟨v', e, r⟩ := k.sl β x y h7
      rw [h6] at e; cases e
      refine (z.rt Γp).wid (h4.to r) fun q hq => ?_
      have hq' : o q = some x.idx := hq
      show (o q).bind κ.at_ = some z.idx
      rw [hq']
      exact κ.sl_at nd h3
  · have rev : ∀ b, ((o b).bind κ.at_ ≠ none ∨ H b = none) → C.M0 b ∨ C.H0 b = none := fun b h => by
      rcases h with h | h
      · exact k.free (.inl (hoc b h))
      · exact k.free (.inr h)
    have nM : ∀ b u, ¬ C.M0 b → C.H0 b = some u → ¬ (o b).bind κ.at_ ≠ none := fun b u n h z => by
      rcases k.free (H := H) (.inl (hoc b z)) with q | q
      · exact n q
      · rw [q] at h; cases h
    have keep : ∀ b i, o b = some i → κ.at_ i = none → (o b).bind κ.at_ = none ∧ o' b = none := fun b i h1 h2 => by
      have e : (o b).bind κ.at_ = none := by rw [h1]; exact h2
      refine ⟨e, ?_⟩
      cases z : o' b with
      | none => rfl
      | some j =>
        rcases (k'.own b (by rw [z]; simp)).2.2 with w | w
        · exact absurd e w
        · obtain ⟨_, ⟨ob, h, _⟩, _⟩ := k.own b (by rw [h1]; simp)
          have w' : H b = none := w
          rw [h] at w'; cases w'
    refine ⟨fun b => match (o' b).bind κ.sl with
      | some i => some i
      | none => if (o b).bind κ.at_ = none then o b else none, ?_, ?_, fun B tB b hb => ?_⟩
    · refine ⟨k.g.trans k'.g, k'.gh, fun b n h0 g0 => ?_, fun b ob n h0 => k'.fr b ob (nM b ob n h0) (k.fr b ob n h0), fun b h0 => k'.dom b (k.dom b h0), fun b ob h0 i => k'.imm b ob (k.imm b ob h0 i) i, fun b hb => ?_, k.len, fun β y b hy => ?_⟩
      · cases q : C.H0 b with
        | none => exact absurd q h0
        | some u => exact k'.new b (nM b u n q) (k.dom b h0) (k.new b n h0 g0)
      · cases q : (o' b).bind κ.sl with
        | some i =>
          have ne : o' b ≠ none := fun e => by rw [e] at q; cases q
          obtain ⟨h1, h2, h3⟩ := k'.own b ne
          exact ⟨h1, h2, rev b h3⟩
        | none =>
          simp only [q] at hb
          by_cases hz : (o b).bind κ.at_ = none
          · rw [if_pos hz] at hb
            obtain ⟨h1, ⟨ob, h2, h3⟩, h4⟩ := k.own b hb
            have nm : ¬ (reC G H fun a => (o a).bind κ.at_).M0 b := fun w => w hz
            exact ⟨k'.new b nm (by show H b ≠ none; rw [h2]; simp) h1, ⟨ob, k'.fr b ob nm h2, h3⟩, h4⟩
          · rw [if_neg hz] at hb; exact absurd rfl hb
      · rcases κ.put_get as' s β y with ⟨z, h1, h2⟩ | ⟨h1, h2⟩
        · rw [h2] at hy
          obtain ⟨v, h3, h4⟩ := a.var β z
          rcases h4 with ⟨h5, _⟩ | ⟨x, w, h5, h6, h7, h8, h9, h10⟩
          · rw [h5] at h1; cases h1
          · rw [h5] at h1
            have exy : x = y := Var.idx_inj x y (Option.some.inj h1)
            subst exy
            obtain ⟨u, e1, r1⟩ := k'.sl β z b hy
            cases of_vs h3 e1
            obtain ⟨u', e2, r2⟩ := k.sl β x w h9
            rw [h8] at e2; cases e2
            rw [om.get β z (by rw [h5]; simp)] at r1
            refine ⟨v, h8, (x.rt Γ).wid (h6.of r2 r1) fun q hq => ?_⟩
            have hq' : o' q = some z.idx := hq
            have e3 : (o' q).bind κ.sl = some x.idx := by rw [hq']; exact h5
            simp only [e3]
        · rw [h2] at hy
          obtain ⟨v, e, r⟩ := k.sl β y b hy
          refine ⟨v, e, (y.rt Γ).wid ((y.rt Γ).grow r k'.g fun q hq => ?_) fun q hq => ?_⟩
          · have hq' : o q = some y.idx := hq
            obtain ⟨e1, _⟩ := keep q _ hq' h1
            obtain ⟨_, ⟨ob, h3, _⟩, _⟩ := k.own q (by rw [hq']; simp)
            rw [h3, k'.fr q ob (fun w => w e1) h3]
          · have hq' : o q = some y.idx := hq
            obtain ⟨e1, e2⟩ := keep q _ hq' h1
            simp only [e2, Option.bind_none, e1, if_true]
            exact hq'
    · intro β y hf
      rcases κ.put_get as' s β y with ⟨z, h1, h2⟩ | ⟨h1, h2⟩
      · obtain ⟨v, h3, h4⟩ := a.var β z
        rcases h4 with ⟨h5, _⟩ | ⟨x, w, h5, h6, h7, h8, h9, h10⟩
        · rw [h5] at h1; cases h1
        · rw [h5] at h1
          have exy : x = y := Var.idx_inj x y (Option.some.inj h1)
          subst exy
          rw [h7] at hf; cases hf
      · exact h2
    · obtain ⟨h1, h2, h3, h4⟩ := tB b hb
      refine ⟨?_, h2, h3, rev b h4⟩
      simp only [h1, Option.bind_none]
      by_cases hz : (o b).bind κ.at_ = none
      · rw [if_pos hz]
        rcases h4 with w | w
        · exact absurd hz w
        · cases q : o b with
          | none => rfl
          | some i =>
            obtain ⟨_, ⟨ob, h, _⟩, _⟩ := k.own b (by rw [q]; simp)
            have w' : H b = none := w
            rw [h] at w'; cases w'
      · rw [if_neg hz]
/-- the program of a call -/
def mCall {ps : List Type} (κ : Ks αs ps) (f : Env ps → Option (ρ × Env ps)) (ma : M αs (Env ps)) : M αs ρ := fun s => (ma s).bind fun p => (f p.1).bind fun q => some (q.1, κ.put q.2 p.2)
theorem XE.callSp {ps : List Type} {Γp Γo : RTs X.K ps} {R : RT X.K ρ} {f : Env ps → Option (ρ × Env ps)} (κ : Ks αs ps) {ma : M αs (Env ps)} (nd : κ.ixs.Nodup) (om : OM κ Γp Γo) (hpe : PE X e (fun σ H Q => wA X es σ H fun vs H1 => spF ⟨ps, Γp, Γo, ρ, R, f⟩ vs H1 Q E0)) (ha : XA X Γ es κ Γp ma) :
    XE X Γ e R (mCall κ f ma) := by
  intro C s σ G H o k x s' hm Q q
  obtain ⟨⟨as, s1⟩, e1, e2⟩ := bindE hm
  obtain ⟨⟨r, as'⟩, e3, e4⟩ := bindE e2
  cases e4
  refine wE_of hpe ?_
  refine ha C s σ G H o k as s1 e1 _ fun vs G1 H1 o1 k1 g1 kp r1 => ?_
  obtain ⟨oc, k2, back⟩ := k1.call κ nd om r1
  refine ⟨G1, oc, as, _, as', k2, e3, fun v G' H' o' B k' rr t => ?_⟩
  obtain ⟨o2, k3, kp3, tB⟩ := back as' G' H' o' k'
  exact q v G' H' o2 B k3 (g1.trans k'.g) (kp.trans kp3) rr (tB B t)
/-- f(e, ..) -/
theorem XE.call {ps : List Type} {Γp Γo : RTs X.K ps} {R : RT X.K ρ} {f : Env ps → Option (ρ × Env ps)} (κ : Ks αs ps) {ma : M αs (Env ps)} {fn : Addr} {fd : FuncData} {qs : List Str} {n : Nat} {x : Str} {p : Pos}
    (F : FnOk X.prog X.w X.K X.mg X.base CX0 n fn fd qs (spF ⟨ps, Γp, Γo, ρ, R, f⟩)) (hr : Room n X.A) (hg : Gl X x) (hm : X.mg x = some (.ref fn)) (hk : PySem.W.keepIn X.K (.ref fn) = true) (hb : Binds X.K fd qs []) (ha : XA X Γ (e :: es) κ Γp ma)
    (nd : κ.ixs.Nodup := by decide) (om : OM κ Γp Γo) (hdb : (x == ("__debug__" : Str)) = false := by decide) (he : starEach (e :: es) X.env = (false, eval e X.env) :: starEach es X.env := by rfl) (hpl : (backTo pos (starEach es X.env)).any (·.1) = false := by rfl) :
    XE X Γ (.Call (.Name x p) (e :: es) [] pos) R (mCall κ f ma) := by
  have h : PE X (.Call (.Name x p) (e :: es) [] pos) (tCall (spF ⟨ps, Γp, Γo, ρ, R, f⟩) [] E0 (wA X (e :: es))) := pe_call F hr hg hm hk hb .nil pass0 pa_w hdb he hpl
  refine XE.callSp κ nd om ⟨fun pins s σ H Q I hq => h.run pins s σ H Q I ?_⟩ ha
  intro pos pins s I
  exact thn (hq pos pins s I) fun us s' ⟨vs, H', I', r, q⟩ => ⟨vs, H', I', r, by show spF _ (vs ++ []) H' Q E0; rw [List.append_nil]; exact q⟩
end
end Sm
/-! S10: the script, further calls, the law's end. -/
namespace Sm
open PySem PySem.Spec L2
open Enc (enc)

section
variable {X : Cx} {αs : List Type} {Γ Γ1 Γ2 Γ' Γt : RTs X.K αs} {α β γ ρ : Type} {e a b c tg iter : Expr} {es : List Expr} {pos apos cpos : Pos}
/-! ### the script -/
def RT.scr (K : Fr) : RT K (List Int) where
  rel := fun G _ v ns _ => ∃ a, v = .ref a ∧ SqL K G a (ns.map V.int)
  shr := fun G v ns => ∃ a, v = .ref a ∧ SqL K G a (ns.map V.int)
  fix := true
  grow := fun ⟨a, e, h⟩ g _ => ⟨a, e, g.l h⟩
  view := fun ⟨a, e, h⟩ g _ => ⟨a, e, g.l h⟩
  smono := fun ⟨a, e, h⟩ g => ⟨a, e, g.l h⟩
  wid := fun h _ => h
  ok := .inl ⟨rfl, fun _ _ _ _ _ => Iff.rfl⟩
theorem atI_map {α β : Type} (f : α → β) (xs : List α) (i : Int) : atI (xs.map f) i = (atI xs i).map f := by
  unfold atI
  rw [List.length_map]
  cases ixN xs.length i with
  | none => rfl
  | some j =>
    show (xs.map f)[j]? = (xs[j]?).map f
    rw [List.getElem?_map]
theorem XE.idxScr {ma : M αs (List Int)} {mb : M αs Int} (ha : XE X Γ a (RT.scr X.K) ma) (hb : XE X Γ b (RT.dat X.K Int) mb) (hs : PlainIx b := by exact fun _ _ => rfl) : XE X Γ (.Subscript a b pos) (RT.dat X.K Int) (m2 Sm.idx ma mb) :=
  .bin (r := rIxL X.K) (pe_ix ix_list pe_w pe_w hs) ha hb rfl rfl fun G H v u x y z Q e hx hy hz q => by
    obtain ⟨p, rfl, hp⟩ := hx
    cases dq_int hy
    refine ⟨p, x.map V.int, y, .int z, rfl, rfl, e.l hp, ?_, here (z := z) e (.int _) q⟩
    rw [atI_map, show atI x y = some z from (idx_eq _ _).symm.trans hz]; rfl
theorem XE.lenScr {ma : M αs (List Int)} {p : Pos} (hg : Gl X "len") (hm : X.mg "len" = none) (ha : XE X Γ a (RT.scr X.K) ma)
    (he : starEach [a] X.env = [(false, eval a X.env)] := by rfl) : XE X Γ (.Call (.Name "len" p) [a] [] pos) (RT.dat X.K Int) (m1 ilen ma) :=
  .un (r := fun v H Q => ∃ p ys, [v] = [V.ref p] ∧ (SqL X.K H p ys ∨ SqT X.K H p ys) ∧ Q (.int ys.length) H) (pe_callB call_len_seq hg hm PySem.boot_len (pa_cons pe_w pa_nil he) (he := he)) ha rfl fun G H v x z Q e hx hz q => by
    cases hz
    obtain ⟨p, rfl, hp⟩ := hx
    exact ⟨p, _, rfl, .inl (e.l hp), by rw [List.length_map]; exact here (z := (x.length : Int)) e (.int _) q⟩
theorem XI.scr {ma : M αs (List Int)} (ha : XE X Γ iter (RT.scr X.K) ma) : XI X Γ tg iter (RT.dat X.K Int) ma := by
  intro C s σ G H o k xs s' hm Rw q
  refine wI_of (pi_list pe_w) ?_
  refine ha C s σ G H o k xs s' hm _ fun v G1 H1 o1 B k1 g1 kp r t => ?_
  obtain ⟨p, rfl, hp⟩ := r
  refine ⟨p, rfl, ⟨_, k1.gh.l hp⟩, q _ G1 H1 o1 k1 g1 kp ⟨fun i y H hy e => ?_, fun H e => ⟨_, e.l hp, by rw [List.length_map]; exact Nat.le_refl _⟩, fun i y G2 H x H' hy e e2 yl => ?_⟩⟩
  · exact ⟨_, .int y, e.l hp, by rw [List.getElem?_map, hy]; rfl⟩
  · obtain ⟨rfl, yl⟩ := yl
    have h := yl _ (e2.l (e.l hp))
    rw [List.getElem?_map, hy] at h
    cases h
    exact ⟨G2, .refl e2, .int _⟩

theorem XE.neg {ma : M αs Int} (ha : XE X Γ a (RT.dat X.K Int) ma) : XE X Γ (.UnaryOp .USub a pos) (RT.dat X.K Int) (m1 ineg ma) :=
  .un (r := rU fun i => .int (-i)) (pe_un un_neg pe_w) ha rfl fun G H v x z Q e hx hz q => by
    cases hz
    cases dq_int hx
    exact ⟨x, rfl, here (z := -x) e (.int _) q⟩
/-! ### one's own as data -/
theorem XE.dat [Enc α] [PureE α] {m : M αs (List α)} (h : XE X Γ e (RT.own X.K α) m) : XE X Γ e (RT.dat X.K (List α)) m := XE.freeze h

/-! ### l.index(x), l.count(x) -/
theorem idx_first [Enc α] [DecidableEq α] [EqE α] {xs : List α} {x : α} {j : Nat} (h : xs.findIdx? (· = x) = some j) : ∃ z, (xs.map enc)[j]? = some z ∧ PyData.eqv z (enc x) = true ∧ ∀ (m : Nat) (z' : PyData), m < j → (xs.map enc)[m]? = some z' → PyData.eqv z' (enc x) = false := by
  obtain ⟨hj, h1, h2⟩ := List.findIdx?_eq_some_iff_getElem.mp h
  refine ⟨enc xs[j], by rw [List.getElem?_map, List.getElem?_eq_getElem hj]; rfl, by rw [EqE.eqv]; simpa using h1, fun m z' hm hz => ?_⟩
  have hm' : m < xs.length := by omega
  rw [List.getElem?_map, List.getElem?_eq_getElem hm'] at hz
  cases hz
  rw [EqE.eqv]
  have := h2 m hm
  simpa using this
theorem XE.index [Enc α] [DecidableEq α] [EqE α] [Lay α] {ma : M αs (List α)} {mb : M αs α} (ha : XE X Γ a (RT.dat X.K (List α)) ma) (hb : XE X Γ b (RT.dat X.K α) mb) (hu : X.A.units + 65 < cLine)
    (hp : PE X (.Call (.Attribute a "index" apos) [b] [] cpos) (tBM X.K "list" (rIndexD X.K) (wE X a) (tCons (wE X b) tNil)) := by exact pe_bm PySem.F.plainAttrs_list PySem.F.slot_list_index PySem.F.type_list_index (mt_indexD (by assumption)) pe_w (pa_cons pe_w pa_nil)) (hd : Lay.dep α + 1 ≤ 64 := by decide) :
    XE X Γ (.Call (.Attribute a "index" apos) [b] [] cpos) (RT.dat X.K Int) (m2 indexOf ma mb) := by
  intro C s σ G H o k z s' hm Q q
  obtain ⟨x, s1, y, h1, h2, h3⟩ := m2E hm
  obtain ⟨j, h4, h5⟩ := Option.map_eq_some_iff.mp h3
  subst h5
  refine wE_of hp ?_
  refine ha C s σ G H o k x s1 h1 _ fun v G1 H1 o1 B k1 g1 kp r1 t1 => ?_
  obtain ⟨p, vs, rfl, hp', hr⟩ := dq_list r1
  refine ⟨.inl ⟨rfl, vs, SqL.of (k1.gh _ _ hp')⟩, ?_⟩
  refine hb C s1 σ G1 H1 o1 k1 y s' h2 _ fun u G2 H2 o2 B' k2 g2 kp2 r2 t2 => ?_
  obtain ⟨w, h6, h7, h8⟩ := idx_first h4
  refine ⟨p, u, enc y, x.map enc, j, w, rfl, rfl, dq_dp (dq_mono (g2.trans k2.gh) r1), dq_dp (dq_mono k2.gh r2), shaped_enc (α := List α) hd x, shaped_enc (Nat.le_of_succ_le hd) y, h6, h7, h8, ?_⟩
  exact q _ G2 H2 o2 (fun _ => False) k2 (g1.trans g2) (kp.trans kp2) (show Dq X.K G2 _ (.int _) from .int _) tmp0
def rCountD (K : PySem.W.Frag) : V → List V → Hp → VK → Prop := fun x xs H Q => ∃ (a : Addr) (y : V) (d : PyData) (ds : List PyData), x = V.ref a ∧ xs = [y] ∧ Dp K H (V.ref a) (.list ds) ∧ Dp K H y d ∧
  SeqAt.shaped (.list ds) = true ∧ SeqAt.shaped d = true ∧ Q (.int ((ds.countP fun z => PyData.eqv z d : Nat) : Int)) H
theorem mt_countD (hu : X.A.units + 65 < cLine) : MtR X "list.count" (rCountD X.K) := by
  intro pins s σ H x xs v us Q I rx rxs h
  obtain ⟨a, y, d, ds, rfl, rfl, hl, hy, sl, sd, q⟩ := h
  cases rx
  cases rxs with
  | cons ry rt =>
    rename_i uy ut
    cases rt
    obtain ⟨bs, r1⟩ := Dp.reads I d y uy hy ry
    have hxs : PyData.canLayAll0 ds = true := SeqAt.canLay_of_shaped sl
    have hroom : X.A.units + 1 + min (PyData.depthAll ds) d.depth < cLine := PyProof.Rows.room_in_shaped sd hu
    cases hl with
    | lst hs ha =>
      obtain ⟨its, rv, ⟨⟨cls, dd, data, sls⟩, n, ho, hc, hdn, hdt⟩, hlen⟩ := I.list hs
      simp only at hc hdt
      subst hc hdt
      obtain ⟨as, h4⟩ := Dp.readsAll I ds _ its ha rv
      have hmap : its.map (SeqAt.readOf s.heap) = ds := SeqAt.readsAll_map ds its as hxs h4
      refine call_meets PySem.F.slot_list_count ⟨_, ho, rfl⟩ PySem.F.entry_list_count (PySem.F.args_list_count_2 _ _)
        (SeqAt.list_countAt a its.toArray n dd sls uy (fun u => PyData.eqv (SeqAt.readOf s.heap u) d)) ⟨ho, SeqAt.items_eqAt (vs := its.toArray) (show ReadsAll s.heap its.toArray.toList ds as from h4) r1 hxs (SeqAt.canLay_of_shaped sd) hroom, ?_⟩
      refine ⟨.int _, H, I.tok _, ⟨_, rfl⟩, ?_⟩
      have e : its.toArray.toList.countP (fun u => PyData.eqv (SeqAt.readOf s.heap u) d) = ds.countP fun z => PyData.eqv z d := by
        rw [← hmap, List.countP_map]
        rfl
      rw [e]
      exact q
theorem cnt_enc [Enc α] [DecidableEq α] [EqE α] (x : α) : ∀ xs : List α, (xs.map enc).countP (fun z => PyData.eqv z (enc x)) = (xs.filter (· = x)).length
  | [] => rfl
  | y :: ys => by
    rw [List.map_cons, List.countP_cons, cnt_enc x ys, EqE.eqv, List.filter_cons]
    by_cases h : y = x
    · simp [h]
    · simp [h]
theorem XE.count [Enc α] [DecidableEq α] [EqE α] [Lay α] {ma : M αs (List α)} {mb : M αs α} (ha : XE X Γ a (RT.dat X.K (List α)) ma) (hb : XE X Γ b (RT.dat X.K α) mb) (hu : X.A.units + 65 < cLine)
    (hp : PE X (.Call (.Attribute a "count" apos) [b] [] cpos) (tBM X.K "list" (rCountD X.K) (wE X a) (tCons (wE X b) tNil)) := by exact pe_bm PySem.F.plainAttrs_list PySem.F.slot_list_count PySem.F.type_list_count (mt_countD (by assumption)) pe_w (pa_cons pe_w pa_nil)) (hd : Lay.dep α + 1 ≤ 64 := by decide) :
    XE X Γ (.Call (.Attribute a "count" apos) [b] [] cpos) (RT.dat X.K Int) (m2 cnt ma mb) := by
  intro C s σ G H o k z s' hm Q q
  obtain ⟨x, s1, y, h1, h2, h3⟩ := m2E hm
  cases h3
  refine wE_of hp ?_
  refine ha C s σ G H o k x s1 h1 _ fun v G1 H1 o1 B k1 g1 kp r1 t1 => ?_
  obtain ⟨p, vs, rfl, hp', hr⟩ := dq_list r1
  refine ⟨.inl ⟨rfl, vs, SqL.of (k1.gh _ _ hp')⟩, ?_⟩
  refine hb C s1 σ G1 H1 o1 k1 y s' h2 _ fun u G2 H2 o2 B' k2 g2 kp2 r2 t2 => ?_
  refine ⟨p, u, enc y, x.map enc, rfl, rfl, dq_dp (dq_mono (g2.trans k2.gh) r1), dq_dp (dq_mono k2.gh r2), shaped_enc (α := List α) hd x, shaped_enc (Nat.le_of_succ_le hd) y, ?_⟩
  rw [cnt_enc]
  exact q _ G2 H2 o2 (fun _ => False) k2 (g1.trans g2) (kp.trans kp2) (show Dq X.K G2 _ (.int _) from .int _) tmp0

/-! ### isinstance -/
def isT {α : Type} (b : Bool) (_ : α) : Option Bool := some b
theorem XE.isinst [Enc α] {ma : M αs α} {T : Str} {t : String} {T' : String} {r : Bool} {p p2 : Pos} (hty : ∀ (G : Hp) (v : V) (x : α), Dq X.K G v (enc x) → TyX X.K G v (.type T')) (hk : kitB T' t = some r) (hg : Gl X "isinstance") (hm : X.mg "isinstance" = none) (hg2 : Gl X T) (hm2 : X.mg T = none) (hv2 : bootBuiltins T = some (.type t))
    (ha : XE X Γ a (RT.dat X.K α) ma) (hn : T ≠ "__name__" := by decide) (hd : (T == ("__debug__" : Str)) = false := by decide) (he : starEach [a, .Name T p2] X.env = [(false, eval a X.env), (false, eval (.Name T p2) X.env)] := by rfl) (he2 : starEach [.Name T p2] X.env = [(false, eval (.Name T p2) X.env)] := by rfl) :
    XE X Γ (.Call (.Name "isinstance" p) [a, .Name T p2] [] pos) (RT.dat X.K Bool) (m1 (isT r) ma) :=
  .un (r := fun v H Q => rIsi X.K [v, .ty t] H Q) (pe_callB call_isi hg hm (by decide +kernel) (pa_cons pe_w (pa_cons (pe_bltn (v := .ty t) hg2 hm2 hv2 rfl hn hd) pa_nil he2) (by rw [he, he2])) (he := by rw [he, he2]) (hpl := by rw [he2]; rfl)) ha rfl fun G H v x z Q e hx hz q => by
    cases hz
    exact ⟨v, .ty t, .type T', .type t, r, rfl, .ty t, hty H v x (dq_mono e hx), kit_ty hk, here (z := r) e (.bl _) q⟩
theorem ty_int {K : Fr} (G : Hp) (v : V) (x : Int) (h : Dq K G v (enc x)) : TyX K G v (.type "int") := by
  cases dq_int h
  exact .base (.int x)
theorem ty_bl {K : Fr} (G : Hp) (v : V) (x : Bool) (h : Dq K G v (enc x)) : TyX K G v (.type "bool") := by
  cases dq_bl h
  exact .base (.bl x)
theorem ty_lst {K : Fr} [Enc α] (G : Hp) (v : V) (x : List α) (h : Dq K G v (enc x)) : TyX K G v (.type "list") := by
  obtain ⟨p, vs, rfl, hp, _⟩ := dq_list h
  exact .base (.lst hp)
end

/-! ### small things -/
theorem len0 {vs : List V} (h : vs.length = 0) : vs = [] := List.length_eq_zero_iff.mp h
theorem len1 {vs : List V} (h : vs.length = 1) : ∃ a, vs = [a] := match vs, h with | [a], _ => ⟨a, rfl⟩
theorem len2 {vs : List V} (h : vs.length = 2) : ∃ a b, vs = [a, b] := match vs, h with | [a, b], _ => ⟨a, b, rfl⟩
theorem len3 {vs : List V} (h : vs.length = 3) : ∃ a b c, vs = [a, b, c] := match vs, h with | [a, b, c], _ => ⟨a, b, c, rfl⟩
theorem len4 {vs : List V} (h : vs.length = 4) : ∃ a b c d, vs = [a, b, c, d] := match vs, h with | [a, b, c, d], _ => ⟨a, b, c, d, rfl⟩
theorem len5 {vs : List V} (h : vs.length = 5) : ∃ a b c d e, vs = [a, b, c, d, e] := match vs, h with | [a, b, c, d, e], _ => ⟨a, b, c, d, e, rfl⟩
theorem len6 {vs : List V} (h : vs.length = 6) : ∃ a b c d e f, vs = [a, b, c, d, e, f] := match vs, h with | [a, b, c, d, e, f], _ => ⟨a, b, c, d, e, f, rfl⟩
theorem len7 {vs : List V} (h : vs.length = 7) : ∃ a b c d e f g, vs = [a, b, c, d, e, f, g] := match vs, h with | [a, b, c, d, e, f, g], _ => ⟨a, b, c, d, e, f, g, rfl⟩
theorem len8 {vs : List V} (h : vs.length = 8) : ∃ a b c d e f g i, vs = [a, b, c, d, e, f, g, i] := match vs, h with | [a, b, c, d, e, f, g, i], _ => ⟨a, b, c, d, e, f, g, i, rfl⟩
def fixL {K : Fr} : {αs : List Type} → RTs K αs → Nat → List Nat → Bool
  | [], _, _, _ => true
  | α :: _, Γ, i, vs => (!(vs.contains i) || (show RT K α from Γ.1).fix) && fixL Γ.2 (i + 1) vs
theorem fixL_at {K : Fr} {vs : List Nat} : ∀ {αs : List Type} {Γ : RTs K αs} {i : Nat}, fixL Γ i vs = true → ∀ (γ : Type) (x : Var αs γ), i + x.idx ∈ vs → (x.rt Γ).fix = true
  | _, Γ, i, h, _, .vz, m => by
    have h' := (Bool.and_eq_true_iff.mp h).1
    have m' : vs.contains i = true := List.contains_iff_mem.mpr (by simpa [Var.idx] using m)
    rw [m'] at h'
    exact h'
  | _, Γ, i, h, γ, .vs x, m => by
    refine fixL_at (i := i + 1) (Bool.and_eq_true_iff.mp h).2 γ x ?_
    have e : i + 1 + x.idx = i + (x.idx + 1) := by omega
    rw [e]
    exact m
theorem fixAt {K : Fr} {αs : List Type} {Γ : RTs K αs} {vs : List Nat} (h : fixL Γ 0 vs = true) : ∀ (γ : Type) (x : Var αs γ), x.idx ∈ vs → (x.rt Γ).fix = true := fun γ x m => fixL_at h γ x (by rw [Nat.zero_add]; exact m)

/-! ### the end -/
def lawFs (K : Fr) (f : Env [List Int] → Option (Bool × Env [List Int])) : Fs K :=
  { ps := [List Int], Γp := ((RT.scr K, ()) : RT K (List Int) × Unit), Γo := ((RT.dead K (List Int), ()) : RT K (List Int) × Unit), ρ := Bool, R := RT.dat K Bool, f := f }
theorem lawFs_ok {K : Fr} {f : Env [List Int] → Option (Bool × Env [List Int])} {H : Hp} {a : Addr} {ns : List Int} {s' : Env [List Int]} {E : XK} (hS : SqL K H a (ns.map V.int)) (hs : f ((some ns, ()) : Option (List Int) × Unit) = some (true, s')) :
    spF (lawFs K f) [.ref a] H (fun v _ => v = .bl true) E := by
  refine ⟨H, fun _ => none, ((some ns, ()) : Option (List Int) × Unit), true, s', ⟨Ex.refl _, Ex.refl _, fun _ _ _ h => h, fun _ _ _ h => h, fun _ h => h, fun _ _ h _ => h, fun _ h => absurd rfl h, rfl, fun α x y hy => ?_⟩, hs, fun v G' H' o' B _ r _ => dq_bl r⟩
  cases x with
  | vz =>
    have hy' : some ns = some y := hy
    cases hy'
    exact ⟨_, rfl, a, rfl, hS⟩
  | vs x => exact nomatch x
theorem law_walk {l : PySem.W.OpenLaw} {q : Program} {loose : List Str} {XP : (Str → Option Value) → Heap → Prop} {YP : World → Heap → Prop} {d : DefRec} {K : PySem.Params → Fr} {f : Env [List Int] → Option (Bool × Env [List Int])} {k : Nat} (hn : l.most = some 63) (hdf : d.params.defaults = []) (hr : Room k callerA)
    (hY : ∀ (w : World) (h : Heap), YP w h → (K w.params).In h)
    (F : ∀ (w : World) (mg : Str → Option Value) (fa : Addr) (h : Heap), (K w.params).In h → h.Ns mainGlobals mg → mg d.name = some (.ref fa) →
      ∃ fd : FuncData, (∀ (s : Shared) (u : Value), BindsTo s fd ⟨[u], []⟩ [("script", u)]) ∧ ∀ base : Heap, (K w.params).In base → base.Ns mainGlobals mg → FnOk l.prog w (K w.params) mg base CX0 k fa fd ["script"] (spF (lawFs (K w.params) f)))
    (hf : ∀ ns : List Int, ns.length ≤ 63 → ∃ s', f ((some ns, ()) : Option (List Int) × Unit) = some (true, s')) :
    PySem.W.WalkO q loose XP YP l.row.toRowW d [] (fun f vs => PySem.call f vs) :=
  L2.walk_of (n := 63) (k := k) (x := "script") (CX := fun _ => CX0) (sp := fun w => spF (lawFs (K w.params) f)) hn (by decide) hdf hr hY F (fun w H a ns hl _ hS => by
    obtain ⟨s', hs⟩ := hf ns hl
    exact lawFs_ok hS hs) fun _ _ _ _ _ z => z
end Sm
/-! S11: what the programs over an environment reckon (plain Lean). -/
namespace Sm
open PySem PySem.Spec L2
open Enc (enc)

section
variable {αs : List Type} {α β γ ρ : Type}
theorem idx_nat {xs : List α} {j : Nat} {v : α} (h : xs[j]? = some v) : idx xs (j : Int) = some v := (idx_eq _ _).trans (atI_nat h)
theorem ixN_nat {n j : Nat} (h : j < n) : ixN n (j : Int) = some j := by
  unfold ixN
  rw [if_pos (by omega), if_pos (by omega)]; simp
theorem idx_at {xs : List α} {j : Nat} (h : j < xs.length) : idx xs (j : Int) = some xs[j] := idx_nat (List.getElem?_eq_getElem h)
theorem idx0 (a : α) (xs : List α) : idx (a :: xs) 0 = some a := idx_nat (j := 0) rfl
theorem setAt_nat {xs : List α} {j : Nat} {v : α} (h : j < xs.length) : setAt xs (j : Int) v = some (xs.set j v) := by
  rw [setAt_eq, ixN_nat h]; rfl
theorem setAt0 (a b : α) (xs : List α) : setAt (a :: xs) 0 b = some (b :: xs) := setAt_nat (xs := a :: xs) (j := 0) (Nat.succ_pos _)
theorem imod_pos {i j : Int} (h : 0 < j) : imod i j = some (i % j) := (imod_eq _ _).trans (if_pos h)
theorem idiv_pos {i j : Int} (h : 0 < j) (h2 : j < 1073741824) : idiv i j = some (i / j) := (idiv_eq _ _).trans (if_pos ⟨h, h2⟩)
theorem imul_l {i j : Int} (h : -(2 ^ 64) < i ∧ i < 2 ^ 64) : imul i j = some (i * j) := (imul_eq _ _).trans (if_pos (.inl h))
theorem imul_r {i j : Int} (h : -(2 ^ 64) < j ∧ j < 2 ^ 64) : imul i j = some (i * j) := (imul_eq _ _).trans (if_pos (.inr h))
theorem lstO_ok {xs : List α} (h : xs.length ≤ 1000000) : lstO xs = some xs := (lstO_eq _).trans (if_pos h)
theorem rng_ok {n : Int} (h : -(2 ^ 62) ≤ n ∧ n < 2 ^ 62) : rng n = some ((List.range n.toNat).map fun (i : Nat) => (i : Int)) := (rng_eq _).trans (if_pos h)
theorem rng2_ok {a n : Int} (h : -(2 ^ 62) ≤ a ∧ a < 2 ^ 62 ∧ -(2 ^ 62) ≤ n ∧ n < 2 ^ 62) : rng2 a n = some ((List.range (n - a).toNat).map fun (i : Nat) => a + (i : Int)) := (rng2_eq _ _).trans (if_pos h)
theorem some_inj_bool {a b : Bool} (h : a = b) : some a = some b := by rw [h]
/-- a loop whose turns all go on -/
theorem loopF_inv {f : α → Env αs → Env αs} {m : MS αs ρ} (Inv : Nat → Env αs → Prop) : ∀ (xs : List α) (i : Nat) (s : Env αs), Inv i s → (∀ (j : Nat) (x : α) (s : Env αs), xs[j]? = some x → Inv (i + j) s → ∃ s', m (f x s) = some (.nx, s') ∧ Inv (i + j + 1) s') →
    ∃ s', loopF f m xs s = some (.nx, s') ∧ Inv (i + xs.length) s'
  | [], i, s, h, _ => ⟨s, rfl, h⟩
  | x :: xs, i, s, h, st => by
    obtain ⟨s1, h1, h2⟩ := st 0 x s rfl h
    obtain ⟨s2, h3, h4⟩ := loopF_inv Inv xs (i + 1) s1 h2 fun j y t hy ht => by
      obtain ⟨s3, h5, h6⟩ := st (j + 1) y t (by simpa using hy) (by rw [show i + (j + 1) = i + 1 + j by omega]; exact ht)
      exact ⟨s3, h5, by rw [show i + 1 + j + 1 = i + (j + 1) + 1 by omega]; exact h6⟩
    refine ⟨s2, ?_, by rw [List.length_cons, show i + (xs.length + 1) = i + 1 + xs.length by omega]; exact h4⟩
    show (m (f x s)).bind _ = _
    rw [h1]
    exact h3
/-- the same over a range -/
theorem loopF_range {f : Int → Env αs → Env αs} {m : MS αs ρ} (Inv : Nat → Env αs → Prop) (g : Nat → Int) (n : Nat) (s : Env αs) (h : Inv 0 s) (st : ∀ (j : Nat) (s : Env αs), j < n → Inv j s → ∃ s', m (f (g j) s) = some (.nx, s') ∧ Inv (j + 1) s') :
    ∃ s', loopF f m ((List.range n).map g) s = some (.nx, s') ∧ Inv n s' := by
  obtain ⟨s', h1, h2⟩ := loopF_inv (f := f) (m := m) Inv ((List.range n).map g) 0 s h fun j x t hx ht => by
    rw [List.getElem?_map] at hx
    by_cases hj : j < n
    · rw [List.getElem?_range hj] at hx
      cases hx
      obtain ⟨s', a, b⟩ := st j t hj (by rw [Nat.zero_add] at ht; exact ht)
      exact ⟨s', a, by rw [Nat.zero_add]; exact b⟩
    · rw [List.getElem?_eq_none (by simp; omega)] at hx
      cases hx
  exact ⟨s', h1, by simpa using h2⟩
/-- a comprehension -/
theorem loopC_inv {f : α → Env αs → Env αs} {rs : Env αs → Env αs → Env αs} {mt : M αs Bool} {me : M αs β} (Inv : Env αs → Prop) (P : β → Prop) (st : ∀ (x : α) (s : Env αs), Inv s → ∃ s1 y s2, mt (f x s) = some (true, s1) ∧ me s1 = some (y, s2) ∧ P y ∧ Inv (rs s s2)) :
    ∀ (xs : List α) (s : Env αs), Inv s → ∃ ys s', loopC f rs mt me xs s = some (ys, s') ∧ ys.length = xs.length ∧ (∀ y ∈ ys, P y) ∧ Inv s'
  | [], s, h => ⟨[], s, rfl, rfl, by simp, h⟩
  | x :: xs, s, h => by
    obtain ⟨s1, y, s2, h1, h2, h3, h4⟩ := st x s h
    obtain ⟨ys, s3, h5, h6, h7, h8⟩ := loopC_inv Inv P st xs _ h4
    refine ⟨y :: ys, s3, ?_, by simp [h6], ?_, h8⟩
    · show (mt (f x s)).bind _ = _
      rw [h1]
      show (me s1).bind _ = _
      rw [h2]
      show (loopC f rs mt me xs (rs s s2)).bind _ = _
      rw [h5]; rfl
    · intro z hz
      rcases List.mem_cons.mp hz with rfl | hz
      · exact h3
      · exact h7 z hz
end

/-! ### what comes out -/
def Run {α : Type} (o : Option α) (P : α → Prop) : Prop := ∃ a, o = some a ∧ P a
theorem Run.some {α : Type} {a : α} {P : α → Prop} (h : P a) : Run (some a) P := ⟨a, rfl, h⟩
theorem run_some {α : Type} {a : α} {P : α → Prop} : Run (some a) P = P a := propext ⟨fun ⟨b, e, h⟩ => by cases e; exact h, fun h => ⟨a, rfl, h⟩⟩
theorem Run.bind {α β : Type} {o : Option α} {f : α → Option β} {P : α → Prop} {Q : β → Prop} (h : Run o P) (k : ∀ a, P a → Run (f a) Q) : Run (o.bind f) Q := by
  obtain ⟨a, rfl, p⟩ := h
  exact k a p
theorem Run.mono {α : Type} {o : Option α} {P Q : α → Prop} (h : Run o P) (k : ∀ a, P a → Q a) : Run o Q := by
  obtain ⟨a, e, p⟩ := h
  exact ⟨a, e, k a p⟩
theorem Run.of {α : Type} {o : Option α} {a : α} {P : α → Prop} (h : o = .some a) (p : P a) : Run o P := ⟨a, h, p⟩
theorem Run.ite {α : Type} {c : Prop} [Decidable c] {o u : Option α} {P : α → Prop} (h1 : c → Run o P) (h2 : ¬ c → Run u P) : Run (if c then o else u) P := by
  by_cases h : c
  · rw [if_pos h]; exact h1 h
  · rw [if_neg h]; exact h2 h
theorem Run.iteB {α β : Type} {c : Prop} [Decidable c] {o u : Option α} {k : α → Option β} {P : β → Prop} (h1 : c → Run (o.bind k) P) (h2 : ¬ c → Run (u.bind k) P) : Run ((if c then o else u).bind k) P := by
  by_cases h : c
  · rw [if_pos h]; exact h1 h
  · rw [if_neg h]; exact h2 h
theorem Run.body {ps ls : List Type} {ρ : Type} {m : MS (ps ++ ls) ρ} {s : Env ps} {P : ρ × Env ps → Prop} (h : Run (m (ext ls ps s)) fun p => match p.1 with | .rt r => P (r, prj ls ps p.2) | _ => False) : Run (bodyF m s) P := by
  obtain ⟨⟨c, s'⟩, e, h⟩ := h
  unfold bodyF
  rw [e]
  cases c with
  | rt r => exact ⟨_, rfl, h⟩
  | nx => exact h.elim
  | bk => exact h.elim
  | ct => exact h.elim
section
variable {αs : List Type} {α β γ ρ : Type}
/-- a loop over a range whose turns all go on -/
theorem Run.forR {n : Int} {mi : M αs Int} {f : Int → Env αs → Env αs} {m : MS αs ρ} {s s0 : Env αs} (hm : mi s0 = .some (n, s)) (hn : -(2 ^ 62) ≤ n ∧ n < 2 ^ 62) (Inv : Nat → Env αs → Prop) (h : Inv 0 s)
    (st : ∀ (j : Nat) (s : Env αs), (j : Int) < n → Inv j s → Run (m (f (j : Int) s)) fun p => p.1 = .nx ∧ Inv (j + 1) p.2) : Run (sFor (m1 rng mi) f m s0) fun p => p.1 = .nx ∧ Inv n.toNat p.2 := by
  obtain ⟨s', h1, h2⟩ := loopF_range (f := f) (m := m) Inv (fun (i : Nat) => (i : Int)) n.toNat s h fun j s hj hi => by
    obtain ⟨⟨c, s2⟩, e, h1, h2⟩ := st j s (by omega) hi
    have h1' : c = .nx := h1
    subst h1'
    exact ⟨s2, e, h2⟩
  refine ⟨(.nx, s'), ?_, rfl, h2⟩
  show ((m1 rng mi s0).bind fun p => loopF f m p.1 p.2) = _
  have e : m1 rng mi s0 = .some ((List.range n.toNat).map fun (i : Nat) => (i : Int), s) := by
    show ((mi s0).bind fun p => (rng p.1).bind fun b => .some (b, p.2)) = _
    rw [hm]
    show ((rng n).bind fun b => .some (b, s)) = _
    rw [rng_ok hn]; rfl
  rw [e]
  exact h1
/-- a loop over a list whose turns all go on -/
theorem Run.forL {xs : List α} {mi : M αs (List α)} {f : α → Env αs → Env αs} {m : MS αs ρ} {s s0 : Env αs} (hm : mi s0 = .some (xs, s)) (Inv : Nat → Env αs → Prop) (h : Inv 0 s)
    (st : ∀ (j : Nat) (x : α) (s : Env αs), xs[j]? = .some x → Inv j s → Run (m (f x s)) fun p => p.1 = .nx ∧ Inv (j + 1) p.2) : Run (sFor mi f m s0) fun p => p.1 = .nx ∧ Inv xs.length p.2 := by
  obtain ⟨s', h1, h2⟩ := loopF_inv (f := f) (m := m) Inv xs 0 s h fun j x s hj hi => by
    obtain ⟨⟨c, s2⟩, e, h1, h2⟩ := st j x s hj (by rw [Nat.zero_add] at hi; exact hi)
    have h1' : c = .nx := h1
    subst h1'
    exact ⟨s2, e, by rw [Nat.zero_add]; exact h2⟩
  refine ⟨(.nx, s'), ?_, rfl, by rw [Nat.zero_add] at h2; exact h2⟩
  show ((mi s0).bind fun p => loopF f m p.1 p.2) = _
  rw [hm]
  exact h1
/-- a loop over a range that may leave by return: each turn goes on with Inv, or ends with an answer in R -/
theorem loopF_ret {f : α → Env αs → Env αs} {m : MS αs ρ} (Inv : Nat → Env αs → Prop) (R : ρ → Env αs → Prop) : ∀ (xs : List α) (i : Nat) (s : Env αs), Inv i s → (∀ (j : Nat) (x : α) (s : Env αs), xs[j]? = .some x → Inv (i + j) s → Run (m (f x s)) fun p => (p.1 = .nx ∧ Inv (i + j + 1) p.2) ∨ ∃ r, p.1 = .rt r ∧ R r p.2) →
    Run (loopF f m xs s) fun p => (p.1 = .nx ∧ Inv (i + xs.length) p.2) ∨ ∃ r, p.1 = .rt r ∧ R r p.2
  | [], i, s, h, _ => ⟨(.nx, s), rfl, .inl ⟨rfl, h⟩⟩
  | x :: xs, i, s, h, st => by
    obtain ⟨⟨c, s1⟩, h1, h2⟩ := st 0 x s rfl h
    have e : loopF f m (x :: xs) s = (m (f x s)).bind fun p => match p.1 with
      | .nx => loopF f m xs p.2
      | .ct => loopF f m xs p.2
      | .bk => .some (.nx, p.2)
      | .rt r => .some (.rt r, p.2) := rfl
    rw [e, h1]
    rcases h2 with ⟨h2, h3⟩ | ⟨r, h2, h3⟩
    · have h2' : c = .nx := h2
      subst h2'
      have := loopF_ret Inv R xs (i + 1) s1 h3 fun j y t hy ht => by
        have := st (j + 1) y t (by simpa using hy) (by rw [show i + (j + 1) = i + 1 + j by omega]; exact ht)
        rw [show i + 1 + j + 1 = i + (j + 1) + 1 by omega]
        exact this
      rw [List.length_cons, show i + (xs.length + 1) = i + 1 + xs.length by omega]
      exact this
    · have h2' : c = .rt r := h2
      subst h2'
      exact ⟨_, rfl, .inr ⟨r, rfl, h3⟩⟩
theorem Run.forRr {n : Int} {mi : M αs Int} {f : Int → Env αs → Env αs} {m : MS αs ρ} {s s0 : Env αs} (hm : mi s0 = .some (n, s)) (hn : -(2 ^ 62) ≤ n ∧ n < 2 ^ 62) (Inv : Nat → Env αs → Prop) (R : ρ → Env αs → Prop) (h : Inv 0 s)
    (st : ∀ (j : Nat) (s : Env αs), (j : Int) < n → Inv j s → Run (m (f (j : Int) s)) fun p => (p.1 = .nx ∧ Inv (j + 1) p.2) ∨ ∃ r, p.1 = .rt r ∧ R r p.2) : Run (sFor (m1 rng mi) f m s0) fun p => (p.1 = .nx ∧ Inv n.toNat p.2) ∨ ∃ r, p.1 = .rt r ∧ R r p.2 := by
  have hh := loopF_ret (f := f) (m := m) Inv R ((List.range n.toNat).map fun (i : Nat) => (i : Int)) 0 s h fun j x s hj hi => by
    rw [List.getElem?_map] at hj
    by_cases hjn : j < n.toNat
    · rw [List.getElem?_range hjn] at hj
      cases hj
      rw [Nat.zero_add] at hi ⊢
      exact st j s (by omega) hi
    · rw [List.getElem?_eq_none (by simp; omega)] at hj
      cases hj
  have e : m1 rng mi s0 = .some ((List.range n.toNat).map fun (i : Nat) => (i : Int), s) := by
    show ((mi s0).bind fun p => (rng p.1).bind fun b => .some (b, p.2)) = _
    rw [hm]
    show ((rng n).bind fun b => .some (b, s)) = _
    rw [rng_ok hn]; rfl
  show Run ((m1 rng mi s0).bind fun p => loopF f m p.1 p.2) _
  rw [e]
  simpa using hh
/-- a comprehension over a range, all items taken -/
theorem Run.lcR {n : Int} {mi : M αs Int} {f : Int → Env αs → Env αs} {rs : Env αs → Env αs → Env αs} {mt : M αs Bool} {me : M αs β} {s s0 : Env αs} (hm : mi s0 = .some (n, s)) (hn : n ≤ 1000000 ∧ -(2 ^ 62) ≤ n) (Inv : Env αs → Prop) (P : β → Prop) (h : Inv s)
    (st : ∀ (x : Int) (s : Env αs), Inv s → Run (mt (f x s)) fun p => p.1 = true ∧ Run (me p.2) fun q => P q.1 ∧ Inv (rs s q.2)) : Run (mLc (m1 rng mi) f rs mt me s0) fun p => p.1.length = n.toNat ∧ (∀ y ∈ p.1, P y) ∧ Inv p.2 := by
  obtain ⟨ys, s', h1, h2, h3, h4⟩ := loopC_inv (f := f) (rs := rs) (mt := mt) (me := me) Inv P (fun x s hi => by
    obtain ⟨⟨b, s1⟩, e1, eb, ⟨y, s2⟩, e2, hp, hi2⟩ := st x s hi
    have eb' : b = true := eb
    subst eb'
    exact ⟨s1, y, s2, e1, e2, hp, hi2⟩) ((List.range n.toNat).map fun (i : Nat) => (i : Int)) s h
  refine ⟨(ys, s'), ?_, by simpa using h2, h3, h4⟩
  show ((m1 rng mi s0).bind fun p => if p.1.length ≤ 1000000 then loopC f rs mt me p.1 p.2 else none) = _
  have e : m1 rng mi s0 = .some ((List.range n.toNat).map fun (i : Nat) => (i : Int), s) := by
    show ((mi s0).bind fun p => (rng p.1).bind fun b => .some (b, p.2)) = _
    rw [hm]
    show ((rng n).bind fun b => .some (b, s)) = _
    rw [rng_ok (by omega)]; rfl
  rw [e]
  show (if ((List.range n.toNat).map fun (i : Nat) => (i : Int)).length ≤ 1000000 then _ else none) = _
  rw [if_pos (by simp; omega)]
  exact h1
end
end Sm
namespace Lw
open PySem PySem.Spec L2 Sm
open Enc (enc)
def topS (i : Nat) : Stmt := PySem.Challenge.pw_bothcome_k20_who_came.main.body.getD i (.Pass ⟨0, 0, 0, 0⟩)
section
variable {Pr : Program} {w : World} {K : Fr} {mg : Str → Option Value} {base : Heap}
/-! ### who_came -/
abbrev who_came_N : List Str := ["crew", "call"]
abbrev who_came_ps : List Type := [List (Int × Int), (Int × Int)]
abbrev who_came_ls : List Type := []
abbrev who_came_T : List Type := [List (Int × Int), (Int × Int)]
abbrev who_came_crew : Var who_came_T (List (Int × Int)) := .vz
abbrev who_came_call : Var who_came_T (Int × Int) := .vs .vz
abbrev who_came_G (K : Fr) (v0 v1 : V) : RTs K who_came_T := ((RT.dat K (List (Int × Int)), ((RT.dat K (Int × Int), ()) : RT K (Int × Int) × RTs K [])) : RT K (List (Int × Int)) × RTs K [(Int × Int)])
abbrev who_came_Gr (K : Fr) (v0 v1 : V) : RTs K who_came_T := ((RT.dead K (List (Int × Int)), ((RT.dead K (Int × Int), ()) : RT K (Int × Int) × RTs K [])) : RT K (List (Int × Int)) × RTs K [(Int × Int)])
abbrev who_came_R (K : Fr) : RT K Int := RT.dat K Int
noncomputable def who_came_m : MS who_came_T Int := (sRet (m2 indexOf (mV who_came_crew) (mV who_came_call)))
noncomputable abbrev who_came_fs (K : Fr) : Fs K := { ps := who_came_ps, Γp := (((RT.dat K (List (Int × Int)), ((RT.dat K (Int × Int), ()) : RT K (Int × Int) × RTs K [])) : RT K (List (Int × Int)) × RTs K [(Int × Int)]) : RTs K who_came_ps), Γo := (((RT.dead K (List (Int × Int)), ((RT.dead K (Int × Int), ()) : RT K (Int × Int) × RTs K [])) : RT K (List (Int × Int)) × RTs K [(Int × Int)]) : RTs K who_came_ps), ρ := Int, R := who_came_R K, f := bodyF (ps := who_came_ps) (ls := who_came_ls) who_came_m }
theorem who_came_sc : FnScope ["crew", "call"] ["crew", "call"] (defScope (topS 1)) := ⟨rfl, rfl, rfl, by decide +kernel, rfl, by decide +kernel, by decide +kernel⟩
theorem who_came_ok {fa : Addr} {fd : FuncData} (F : Fun K "who_came" "who_came" (topS 1) fa fd)  : FnOk Pr w K mg base CX0 1 fa fd ["crew", "call"] (spF (who_came_fs K)) := by
  refine fs_ok (k := 0) F who_came_sc (ps := who_came_ps) (ls := who_came_ls) (m := who_came_m) rfl rfl fun cdv A outer s H vs E hl hr => ?_
  obtain ⟨v0, v1, rfl⟩ := len2 hl
  have hu : (A.deeper (PyProof.Rows.envOfC "who_came" (defScope (topS 1)) s.heap.objs.size fa cdv)).units + 65 < cLine := by have := hr.un; omega
  refine ⟨who_came_G K v0 v1, who_came_Gr K v0 v1, who_came_G K v0 v1, ⟨fun _ _ _ _ _ _ h => h, fun _ _ _ _ _ _ h => h, trivial⟩, ⟨fun _ _ _ _ _ _ _ _ => trivial, fun _ _ _ _ _ _ _ _ => trivial, trivial⟩, ?_⟩
  exact (.one (.ret (.index (.name (x := who_came_crew) (pv 0) rfl rfl) (.name (x := who_came_call) (pv 1) rfl rfl) hu) ⟨.inr rfl, ⟨.inr rfl, trivial⟩⟩))
/-! ### _law_mixed -/
abbrev l_mixed_N : List Str := ["cell", "number", "total", "k", "raised"]
abbrev l_mixed_ps : List Type := [Int]
abbrev l_mixed_ls : List Type := [Int, Int, Int, Int]
abbrev l_mixed_T : List Type := [Int, Int, Int, Int, Int]
abbrev l_mixed_cell : Var l_mixed_T Int := .vz
abbrev l_mixed_number : Var l_mixed_T Int := .vs .vz
abbrev l_mixed_total : Var l_mixed_T Int := .vs (.vs .vz)
abbrev l_mixed_k : Var l_mixed_T Int := .vs (.vs (.vs .vz))
abbrev l_mixed_raised : Var l_mixed_T Int := .vs (.vs (.vs (.vs .vz)))
abbrev l_mixed_G (K : Fr) (v0 : V) : RTs K l_mixed_T := ((RT.dat K Int, ((RT.dat K Int, ((RT.dat K Int, ((RT.dat K Int, ((RT.dat K Int, ()) : RT K Int × RTs K [])) : RT K Int × RTs K [Int])) : RT K Int × RTs K [Int, Int])) : RT K Int × RTs K [Int, Int, Int])) : RT K Int × RTs K [Int, Int, Int, Int])
abbrev l_mixed_Gr (K : Fr) (v0 : V) : RTs K l_mixed_T := ((RT.dead K Int, ((RT.dead K Int, ((RT.dead K Int, ((RT.dead K Int, ((RT.dead K Int, ()) : RT K Int × RTs K [])) : RT K Int × RTs K [Int])) : RT K Int × RTs K [Int, Int])) : RT K Int × RTs K [Int, Int, Int])) : RT K Int × RTs K [Int, Int, Int, Int])
abbrev l_mixed_R (K : Fr) : RT K Int := RT.dat K Int
noncomputable def l_mixed_m : MS l_mixed_T Int := (sSeq (sAsg l_mixed_number (m2 iadd (m2 imod (m1 idt (mV l_mixed_cell)) (mC (2305843009213693907 : Int))) (mC (2 : Int))))
  (sSeq (sAsg l_mixed_total (mC (0 : Int)))
  (sSeq (sFor (m1 rng (mC (10 : Int))) (fun y s => l_mixed_k.set (some y) s) (sSeq (sAsg l_mixed_raised (m2 iadd (m2 imul (m2 imul (mV l_mixed_number) (mV l_mixed_number)) (mC (5 : Int))) (m2 imul (mV l_mixed_number) (mC (7907 : Int)))))
  (sSeq (sAsg l_mixed_number (m2 imod (m1 idt (m2 iadd (m2 iadd (mV l_mixed_raised) (m2 imul (mV l_mixed_k) (mC (1299709 : Int)))) (mC (17 : Int)))) (mC (2305843009213693951 : Int))))
  (sAsg l_mixed_total (m2 iadd (m2 imul (mV l_mixed_total) (mC (2305843009213693951 : Int))) (mV l_mixed_number))))))
  (sRet (mV l_mixed_total)))))
noncomputable abbrev l_mixed_fs (K : Fr) : Fs K := { ps := l_mixed_ps, Γp := (((RT.dat K Int, ()) : RT K Int × RTs K []) : RTs K l_mixed_ps), Γo := (((RT.dead K Int, ()) : RT K Int × RTs K []) : RTs K l_mixed_ps), ρ := Int, R := l_mixed_R K, f := bodyF (ps := l_mixed_ps) (ls := l_mixed_ls) l_mixed_m }
theorem l_mixed_sc : FnScope ["cell", "number", "total", "k", "raised"] ["cell"] (defScope (topS 3)) := ⟨rfl, rfl, rfl, by decide +kernel, rfl, by decide +kernel, by decide +kernel⟩
theorem l_mixed_ok {fa : Addr} {fd : FuncData} (F : Fun K "_law_mixed" "_law_mixed" (topS 3) fa fd) (z_range : mg "range" = none) (z_int : mg "int" = none) : FnOk Pr w K mg base CX0 1 fa fd ["cell"] (spF (l_mixed_fs K)) := by
  refine fs_ok (k := 0) F l_mixed_sc (ps := l_mixed_ps) (ls := l_mixed_ls) (m := l_mixed_m) rfl rfl fun cdv A outer s H vs E hl hr => ?_
  obtain ⟨v0, rfl⟩ := len1 hl
  have hu : (A.deeper (PyProof.Rows.envOfC "_law_mixed" (defScope (topS 3)) s.heap.objs.size fa cdv)).units + 65 < cLine := by have := hr.un; omega
  refine ⟨l_mixed_G K v0, l_mixed_Gr K v0, l_mixed_G K v0, ⟨fun _ _ _ _ _ _ h => h, trivial⟩, ⟨fun _ _ _ _ _ _ _ _ => trivial, trivial⟩, ?_⟩
  exact (.cons (Γ1 := l_mixed_G _ v0)
    (.asg (x := l_mixed_number) (.add (.mod (.intOf (by rfl) z_int (.name (x := l_mixed_cell) (pv 0) rfl rfl)) .int) .int) l_mixed_sc.nd rfl (.inl rfl))
  (.cons (Γ1 := l_mixed_G _ v0)
    (.asg (x := l_mixed_total) .int l_mixed_sc.nd rfl (.inl rfl))
  (.cons (Γ1 := l_mixed_G _ v0)
    (.for_ PassesOwn.never rfl (.range1 (by rfl) z_range .int) ⟨.inl rfl, ⟨.inl rfl, ⟨.inl rfl, ⟨.inl rfl, ⟨.inl rfl, trivial⟩⟩⟩⟩⟩ (.name (x := l_mixed_k) rfl l_mixed_sc.nd rfl (.inl rfl)) (.cons (Γ1 := l_mixed_G _ v0)
    (.asg (x := l_mixed_raised) (.add (.mul (.mul (.name (x := l_mixed_number) (pv 1) rfl rfl) (.name (x := l_mixed_number) (pv 1) rfl rfl)) .int) (.mul (.name (x := l_mixed_number) (pv 1) rfl rfl) .int)) l_mixed_sc.nd rfl (.inl rfl))
  (.cons (Γ1 := l_mixed_G _ v0)
    (.asg (x := l_mixed_number) (.mod (.intOf (by rfl) z_int (.add (.add (.name (x := l_mixed_raised) (pv 4) rfl rfl) (.mul (.name (x := l_mixed_k) (pv 3) rfl rfl) .int)) .int)) .int) l_mixed_sc.nd rfl (.inl rfl))
  (.one (.asg (x := l_mixed_total) (.add (.mul (.name (x := l_mixed_total) (pv 2) rfl rfl) .int) (.name (x := l_mixed_number) (pv 1) rfl rfl)) l_mixed_sc.nd rfl (.inl rfl))))))
  (.one (.ret (.name (x := l_mixed_total) (pv 2) rfl rfl) ⟨.inr rfl, ⟨.inr rfl, ⟨.inr rfl, ⟨.inr rfl, ⟨.inr rfl, trivial⟩⟩⟩⟩⟩)))))
/-! ### _law_source -/
abbrev l_source_N : List Str := ["script", "total", "cell"]
abbrev l_source_ps : List Type := [List Int]
abbrev l_source_ls : List Type := [Int, Int]
abbrev l_source_T : List Type := [List Int, Int, Int]
abbrev l_source_script : Var l_source_T (List Int) := .vz
abbrev l_source_total : Var l_source_T Int := .vs .vz
abbrev l_source_cell : Var l_source_T Int := .vs (.vs .vz)
abbrev l_source_G (K : Fr) (v0 : V) : RTs K l_source_T := ((RT.scr K, ((RT.dat K Int, ((RT.dat K Int, ()) : RT K Int × RTs K [])) : RT K Int × RTs K [Int])) : RT K (List Int) × RTs K [Int, Int])
abbrev l_source_Gr (K : Fr) (v0 : V) : RTs K l_source_T := ((RT.dead K (List Int), ((RT.dead K Int, ((RT.dead K Int, ()) : RT K Int × RTs K [])) : RT K Int × RTs K [Int])) : RT K (List Int) × RTs K [Int, Int])
abbrev l_source_R (K : Fr) : RT K (List Int) := RT.own K Int
noncomputable def l_source_m : MS l_source_T (List Int) := (sSeq (sAsg l_source_total (mC (0 : Int)))
  (sSeq (sFor (mV l_source_script) (fun y s => l_source_cell.set (some y) s) (sIf (m2 ige (mV l_source_cell) (m2 ipow (mC (10 : Int)) (mC (18 : Int)))) (sAsg l_source_total (m2 iadd (m2 imul (mV l_source_total) (mC (1000003 : Int))) (m2 isub (mV l_source_cell) (m2 ipow (mC (10 : Int)) (mC (18 : Int)))))) (sAsg l_source_total (m2 iadd (m2 imul (mV l_source_total) (mC (1000003 : Int))) (mCall (.v .nil) (bodyF (ps := l_mixed_ps) (ls := l_mixed_ls) l_mixed_m) (aV (mV l_source_cell) aNil))))))
  (sRet (m1 lstO (m2 consO (mV l_source_total) (mC ([] : List Int)))))))
noncomputable abbrev l_source_fs (K : Fr) : Fs K := { ps := l_source_ps, Γp := (((RT.scr K, ()) : RT K (List Int) × RTs K []) : RTs K l_source_ps), Γo := (((RT.dead K (List Int), ()) : RT K (List Int) × RTs K []) : RTs K l_source_ps), ρ := List Int, R := l_source_R K, f := bodyF (ps := l_source_ps) (ls := l_source_ls) l_source_m }
theorem l_source_sc : FnScope ["script", "total", "cell"] ["script"] (defScope (topS 4)) := ⟨rfl, rfl, rfl, by decide +kernel, rfl, by decide +kernel, by decide +kernel⟩
theorem l_source_ok {fa : Addr} {fd : FuncData} (F : Fun K "_law_source" "_law_source" (topS 4) fa fd) {a_l_mixed : Addr} {d_l_mixed : FuncData} (G_l_mixed : FnOk Pr w K mg base CX0 1 a_l_mixed d_l_mixed ["cell"] (spF (l_mixed_fs K))) (g_l_mixed : mg "_law_mixed" = some (.ref a_l_mixed)) (k_l_mixed : PySem.W.keepIn K (.ref a_l_mixed) = true) (b_l_mixed : Binds K d_l_mixed ["cell"] []) : FnOk Pr w K mg base CX0 2 fa fd ["script"] (spF (l_source_fs K)) := by
  refine fs_ok (k := 1) F l_source_sc (ps := l_source_ps) (ls := l_source_ls) (m := l_source_m) rfl rfl fun cdv A outer s H vs E hl hr => ?_
  obtain ⟨v0, rfl⟩ := len1 hl
  have hu : (A.deeper (PyProof.Rows.envOfC "_law_source" (defScope (topS 4)) s.heap.objs.size fa cdv)).units + 65 < cLine := by have := hr.un; omega
  refine ⟨l_source_G K v0, l_source_Gr K v0, l_source_G K v0, ⟨fun _ _ _ _ _ _ h => h, trivial⟩, ⟨fun _ _ _ _ _ _ _ _ => trivial, trivial⟩, ?_⟩
  exact (.cons (Γ1 := l_source_G _ v0)
    (.asg (x := l_source_total) .int l_source_sc.nd rfl (.inl rfl))
  (.cons (Γ1 := l_source_G _ v0)
    (.for_ PassesOwn.never rfl (.scr (.name (x := l_source_script) (pv 0) rfl rfl)) ⟨.inl rfl, ⟨.inl rfl, ⟨.inl rfl, trivial⟩⟩⟩ (.name (x := l_source_cell) rfl l_source_sc.nd rfl (.inl rfl)) (.one (.ite (.ofC (.ge (.name (x := l_source_cell) (pv 2) rfl rfl) (.pow .int .int))) (.one (.asg (x := l_source_total) (.add (.mul (.name (x := l_source_total) (pv 1) rfl rfl) .int) (.sub (.name (x := l_source_cell) (pv 2) rfl rfl) (.pow .int .int))) l_source_sc.nd rfl (.inl rfl))) (.one (.asg (x := l_source_total) (.add (.mul (.name (x := l_source_total) (pv 1) rfl rfl) .int) (.call (.v .nil) G_l_mixed (hr.mono (by decide)) (by rfl) g_l_mixed k_l_mixed b_l_mixed (.v rfl (.name (x := l_source_cell) (pv 2) rfl rfl) XA.nil) (om := trivial))) l_source_sc.nd rfl (.inl rfl))))))
  (.one (.ret (.lst (.cons (.name (x := l_source_total) (pv 1) rfl rfl) .nil)) ⟨.inr rfl, ⟨.inr rfl, ⟨.inr rfl, trivial⟩⟩⟩))))
/-! ### _law_pick -/
abbrev l_pick_N : List Str := ["source", "size", "drawn"]
abbrev l_pick_ps : List Type := [List Int, Int]
abbrev l_pick_ls : List Type := [Int]
abbrev l_pick_T : List Type := [List Int, Int, Int]
abbrev l_pick_source : Var l_pick_T (List Int) := .vz
abbrev l_pick_size : Var l_pick_T Int := .vs .vz
abbrev l_pick_drawn : Var l_pick_T Int := .vs (.vs .vz)
abbrev l_pick_G (K : Fr) (v0 v1 : V) : RTs K l_pick_T := ((RT.at v0 (RT.own K Int), ((RT.dat K Int, ((RT.dat K Int, ()) : RT K Int × RTs K [])) : RT K Int × RTs K [Int])) : RT K (List Int) × RTs K [Int, Int])
abbrev l_pick_Gr (K : Fr) (v0 v1 : V) : RTs K l_pick_T := ((RT.at v0 (RT.own K Int), ((RT.dead K Int, ((RT.dead K Int, ()) : RT K Int × RTs K [])) : RT K Int × RTs K [Int])) : RT K (List Int) × RTs K [Int, Int])
abbrev l_pick_R (K : Fr) : RT K Int := RT.dat K Int
noncomputable def l_pick_m : MS l_pick_T Int := (sSeq (sAsg l_pick_drawn (m2 imod (m1 idt (m2 idx (mV l_pick_source) (mC (0 : Int)))) (mV l_pick_size)))
  (sSeq (sSetI l_pick_source (mC (0 : Int)) (m2 idiv (m2 idx (mV l_pick_source) (mC (0 : Int))) (mV l_pick_size)))
  (sRet (mV l_pick_drawn))))
noncomputable abbrev l_pick_fs (K : Fr) : Fs K := { ps := l_pick_ps, Γp := (((RT.own K Int, ((RT.dat K Int, ()) : RT K Int × RTs K [])) : RT K (List Int) × RTs K [Int]) : RTs K l_pick_ps), Γo := (((RT.own K Int, ((RT.dead K Int, ()) : RT K Int × RTs K [])) : RT K (List Int) × RTs K [Int]) : RTs K l_pick_ps), ρ := Int, R := l_pick_R K, f := bodyF (ps := l_pick_ps) (ls := l_pick_ls) l_pick_m }
theorem l_pick_sc : FnScope ["source", "size", "drawn"] ["source", "size"] (defScope (topS 5)) := ⟨rfl, rfl, rfl, by decide +kernel, rfl, by decide +kernel, by decide +kernel⟩
theorem l_pick_ok {fa : Addr} {fd : FuncData} (F : Fun K "_law_pick" "_law_pick" (topS 5) fa fd) (z_int : mg "int" = none) : FnOk Pr w K mg base CX0 1 fa fd ["source", "size"] (spF (l_pick_fs K)) := by
  refine fs_ok (k := 0) F l_pick_sc (ps := l_pick_ps) (ls := l_pick_ls) (m := l_pick_m) rfl rfl fun cdv A outer s H vs E hl hr => ?_
  obtain ⟨v0, v1, rfl⟩ := len2 hl
  have hu : (A.deeper (PyProof.Rows.envOfC "_law_pick" (defScope (topS 5)) s.heap.objs.size fa cdv)).units + 65 < cLine := by have := hr.un; omega
  refine ⟨l_pick_G K v0 v1, l_pick_Gr K v0 v1, l_pick_G K v0 v1, ⟨fun v G H x A e h => ⟨(Option.some.inj e).symm, h⟩, fun _ _ _ _ _ _ h => h, trivial⟩, ⟨fun v u G H x A e h => by cases (Option.some.inj e); cases h.1; exact h.2, fun _ _ _ _ _ _ _ _ => trivial, trivial⟩, ?_⟩
  exact (.cons (Γ1 := l_pick_G _ v0 v1)
    (.asg (x := l_pick_drawn) (.borrow l_pick_source (.mod (.intOf (by rfl) z_int (.idx (.var (x := l_pick_source) (pv 0) rfl rfl (fun _ _ _ h => h.2)) .int)) (.name (x := l_pick_size) (pv 1) rfl rfl)) (lin_dat)) l_pick_sc.nd rfl (.inl rfl))
  (.cons (Γ1 := l_pick_G _ v0 v1)
    (.setI (x := l_pick_source) (pv 0) .at (.borrow l_pick_source (.fdiv (.idx (.var (x := l_pick_source) (pv 0) rfl rfl (fun _ _ _ h => h.2)) .int) (.name (x := l_pick_size) (pv 1) rfl rfl)) (lin_dat)) .int)
  (.one (.ret (.name (x := l_pick_drawn) (pv 2) rfl rfl) ⟨.inl rfl, ⟨.inr rfl, ⟨.inr rfl, trivial⟩⟩⟩))))
/-! ### _law_is_integer -/
abbrev l_is_integer_N : List Str := ["actual"]
abbrev l_is_integer_ps : List Type := [Int]
abbrev l_is_integer_ls : List Type := []
abbrev l_is_integer_T : List Type := [Int]
abbrev l_is_integer_actual : Var l_is_integer_T Int := .vz
abbrev l_is_integer_G (K : Fr) (v0 : V) : RTs K l_is_integer_T := ((RT.dat K Int, ()) : RT K Int × RTs K [])
abbrev l_is_integer_Gr (K : Fr) (v0 : V) : RTs K l_is_integer_T := ((RT.dead K Int, ()) : RT K Int × RTs K [])
abbrev l_is_integer_R (K : Fr) : RT K Bool := RT.dat K Bool
noncomputable def l_is_integer_m : MS l_is_integer_T Bool := (sRet (mAnd (m1 (isT true) (mV l_is_integer_actual)) (m1 bnot (m1 (isT false) (mV l_is_integer_actual)))))
noncomputable abbrev l_is_integer_fs (K : Fr) : Fs K := { ps := l_is_integer_ps, Γp := (((RT.dat K Int, ()) : RT K Int × RTs K []) : RTs K l_is_integer_ps), Γo := (((RT.dead K Int, ()) : RT K Int × RTs K []) : RTs K l_is_integer_ps), ρ := Bool, R := l_is_integer_R K, f := bodyF (ps := l_is_integer_ps) (ls := l_is_integer_ls) l_is_integer_m }
theorem l_is_integer_sc : FnScope ["actual"] ["actual"] (defScope (topS 6)) := ⟨rfl, rfl, rfl, by decide +kernel, rfl, by decide +kernel, by decide +kernel⟩
theorem l_is_integer_ok {fa : Addr} {fd : FuncData} (F : Fun K "_law_is_integer" "_law_is_integer" (topS 6) fa fd) (z_isinstance : mg "isinstance" = none) (z_int : mg "int" = none) (z_bool : mg "bool" = none) : FnOk Pr w K mg base CX0 1 fa fd ["actual"] (spF (l_is_integer_fs K)) := by
  refine fs_ok (k := 0) F l_is_integer_sc (ps := l_is_integer_ps) (ls := l_is_integer_ls) (m := l_is_integer_m) rfl rfl fun cdv A outer s H vs E hl hr => ?_
  obtain ⟨v0, rfl⟩ := len1 hl
  have hu : (A.deeper (PyProof.Rows.envOfC "_law_is_integer" (defScope (topS 6)) s.heap.objs.size fa cdv)).units + 65 < cLine := by have := hr.un; omega
  refine ⟨l_is_integer_G K v0, l_is_integer_Gr K v0, l_is_integer_G K v0, ⟨fun _ _ _ _ _ _ h => h, trivial⟩, ⟨fun _ _ _ _ _ _ _ _ => trivial, trivial⟩, ?_⟩
  exact (.one (.ret (.and (.isinst (T := "int") (t := "int") (T' := "int") (r := true) ty_int (by decide +kernel) (by rfl) z_isinstance (by rfl) z_int (by decide +kernel) (.name (x := l_is_integer_actual) (pv 0) rfl rfl)) (.one (.not (.isinst (T := "bool") (t := "bool") (T' := "int") (r := false) ty_int (by decide +kernel) (by rfl) z_isinstance (by rfl) z_bool (by decide +kernel) (.name (x := l_is_integer_actual) (pv 0) rfl rfl))))) ⟨.inr rfl, trivial⟩))
/-! ### _law_other -/
abbrev l_other_N : List Str := ["source", "call", "kind", "v", "up"]
abbrev l_other_ps : List Type := [List Int, (Int × Int)]
abbrev l_other_ls : List Type := [Int, Int, Int]
abbrev l_other_T : List Type := [List Int, (Int × Int), Int, Int, Int]
abbrev l_other_source : Var l_other_T (List Int) := .vz
abbrev l_other_call : Var l_other_T (Int × Int) := .vs .vz
abbrev l_other_kind : Var l_other_T Int := .vs (.vs .vz)
abbrev l_other_v : Var l_other_T Int := .vs (.vs (.vs .vz))
abbrev l_other_up : Var l_other_T Int := .vs (.vs (.vs (.vs .vz)))
abbrev l_other_G (K : Fr) (v0 v1 : V) : RTs K l_other_T := ((RT.at v0 (RT.own K Int), ((RT.dat K (Int × Int), ((RT.dat K Int, ((RT.dat K Int, ((RT.dat K Int, ()) : RT K Int × RTs K [])) : RT K Int × RTs K [Int])) : RT K Int × RTs K [Int, Int])) : RT K (Int × Int) × RTs K [Int, Int, Int])) : RT K (List Int) × RTs K [(Int × Int), Int, Int, Int])
abbrev l_other_Gr (K : Fr) (v0 v1 : V) : RTs K l_other_T := ((RT.at v0 (RT.own K Int), ((RT.dead K (Int × Int), ((RT.dead K Int, ((RT.dead K Int, ((RT.dead K Int, ()) : RT K Int × RTs K [])) : RT K Int × RTs K [Int])) : RT K Int × RTs K [Int, Int])) : RT K (Int × Int) × RTs K [Int, Int, Int])) : RT K (List Int) × RTs K [(Int × Int), Int, Int, Int])
abbrev l_other_R (K : Fr) : RT K (Int × Int) := RT.dat K (Int × Int)
noncomputable def l_other_m : MS l_other_T (Int × Int) := (sSeq (sAsg l_other_kind (mCall (.m l_other_source (.v .nil)) (bodyF (ps := l_pick_ps) (ls := l_pick_ls) l_pick_m) (aM l_other_source (aV (mC (4 : Int)) aNil))))
  (sSeq (sAsg l_other_v (m2 iadd (mCall (.m l_other_source (.v .nil)) (bodyF (ps := l_pick_ps) (ls := l_pick_ls) l_pick_m) (aM l_other_source (aV (mC (9 : Int)) aNil))) (mC (1 : Int))))
  (sSeq (sAsg l_other_up (mCall (.m l_other_source (.v .nil)) (bodyF (ps := l_pick_ps) (ls := l_pick_ls) l_pick_m) (aM l_other_source (aV (mC (40 : Int)) aNil))))
  (sSeq (sIf (m2 ieq (mV l_other_kind) (mC (0 : Int))) (sRet (mV l_other_call)) sSkip)
  (sSeq (sIf (mAnd (m2 ieq (mV l_other_kind) (mC (1 : Int))) (m2 igt (m1 fst' (mV l_other_call)) (mC (0 : Int)))) (sRet (m2 pair (m1 fst' (mV l_other_call)) (mV l_other_up))) sSkip)
  (sSeq (sIf (m2 ieq (mV l_other_kind) (mC (2 : Int))) (sRet (m2 pair (mV l_other_v) (m1 snd' (mV l_other_call)))) sSkip)
  (sRet (m2 pair (mV l_other_v) (mV l_other_up)))))))))
noncomputable abbrev l_other_fs (K : Fr) : Fs K := { ps := l_other_ps, Γp := (((RT.own K Int, ((RT.dat K (Int × Int), ()) : RT K (Int × Int) × RTs K [])) : RT K (List Int) × RTs K [(Int × Int)]) : RTs K l_other_ps), Γo := (((RT.own K Int, ((RT.dead K (Int × Int), ()) : RT K (Int × Int) × RTs K [])) : RT K (List Int) × RTs K [(Int × Int)]) : RTs K l_other_ps), ρ := (Int × Int), R := l_other_R K, f := bodyF (ps := l_other_ps) (ls := l_other_ls) l_other_m }
theorem l_other_sc : FnScope ["source", "call", "kind", "v", "up"] ["source", "call"] (defScope (topS 7)) := ⟨rfl, rfl, rfl, by decide +kernel, rfl, by decide +kernel, by decide +kernel⟩
theorem l_other_ok {fa : Addr} {fd : FuncData} (F : Fun K "_law_other" "_law_other" (topS 7) fa fd) {a_l_pick : Addr} {d_l_pick : FuncData} (G_l_pick : FnOk Pr w K mg base CX0 1 a_l_pick d_l_pick ["source", "size"] (spF (l_pick_fs K))) (g_l_pick : mg "_law_pick" = some (.ref a_l_pick)) (k_l_pick : PySem.W.keepIn K (.ref a_l_pick) = true) (b_l_pick : Binds K d_l_pick ["source", "size"] []) : FnOk Pr w K mg base CX0 2 fa fd ["source", "call"] (spF (l_other_fs K)) := by
  refine fs_ok (k := 1) F l_other_sc (ps := l_other_ps) (ls := l_other_ls) (m := l_other_m) rfl rfl fun cdv A outer s H vs E hl hr => ?_
  obtain ⟨v0, v1, rfl⟩ := len2 hl
  have hu : (A.deeper (PyProof.Rows.envOfC "_law_other" (defScope (topS 7)) s.heap.objs.size fa cdv)).units + 65 < cLine := by have := hr.un; omega
  refine ⟨l_other_G K v0 v1, l_other_Gr K v0 v1, l_other_G K v0 v1, ⟨fun v G H x A e h => ⟨(Option.some.inj e).symm, h⟩, fun _ _ _ _ _ _ h => h, trivial⟩, ⟨fun v u G H x A e h => by cases (Option.some.inj e); cases h.1; exact h.2, fun _ _ _ _ _ _ _ _ => trivial, trivial⟩, ?_⟩
  exact (.cons (Γ1 := l_other_G _ v0 v1)
    (.asg (x := l_other_kind) (.call (.m l_other_source (.v .nil)) G_l_pick (hr.mono (by decide)) (by rfl) g_l_pick k_l_pick b_l_pick (.m (x := l_other_source) (pv 0) .at rfl (.v rfl .int XA.nil)) (om := ⟨rfl, trivial⟩)) l_other_sc.nd rfl (.inl rfl))
  (.cons (Γ1 := l_other_G _ v0 v1)
    (.asg (x := l_other_v) (.add (.call (.m l_other_source (.v .nil)) G_l_pick (hr.mono (by decide)) (by rfl) g_l_pick k_l_pick b_l_pick (.m (x := l_other_source) (pv 0) .at rfl (.v rfl .int XA.nil)) (om := ⟨rfl, trivial⟩)) .int) l_other_sc.nd rfl (.inl rfl))
  (.cons (Γ1 := l_other_G _ v0 v1)
    (.asg (x := l_other_up) (.call (.m l_other_source (.v .nil)) G_l_pick (hr.mono (by decide)) (by rfl) g_l_pick k_l_pick b_l_pick (.m (x := l_other_source) (pv 0) .at rfl (.v rfl .int XA.nil)) (om := ⟨rfl, trivial⟩)) l_other_sc.nd rfl (.inl rfl))
  (.cons (Γ1 := l_other_G _ v0 v1)
    (.ite (.ofC (.eq (.name (x := l_other_kind) (pv 2) rfl rfl) .int hu)) (.one (.ret (.name (x := l_other_call) (pv 1) rfl rfl) ⟨.inl rfl, ⟨.inr rfl, ⟨.inr rfl, ⟨.inr rfl, ⟨.inr rfl, trivial⟩⟩⟩⟩⟩)) XSs.nil)
  (.cons (Γ1 := l_other_G _ v0 v1)
    (.ite (.ofW (.and (.ofC (.eq (.name (x := l_other_kind) (pv 2) rfl rfl) .int hu)) (.and1 (.ofC (.gt (.fst (.name (x := l_other_call) (pv 1) rfl rfl)) .int))))) (.one (.ret (.pair (.fst (.name (x := l_other_call) (pv 1) rfl rfl)) (.name (x := l_other_up) (pv 4) rfl rfl)) ⟨.inl rfl, ⟨.inr rfl, ⟨.inr rfl, ⟨.inr rfl, ⟨.inr rfl, trivial⟩⟩⟩⟩⟩)) XSs.nil)
  (.cons (Γ1 := l_other_G _ v0 v1)
    (.ite (.ofC (.eq (.name (x := l_other_kind) (pv 2) rfl rfl) .int hu)) (.one (.ret (.pair (.name (x := l_other_v) (pv 3) rfl rfl) (.snd (.name (x := l_other_call) (pv 1) rfl rfl))) ⟨.inl rfl, ⟨.inr rfl, ⟨.inr rfl, ⟨.inr rfl, ⟨.inr rfl, trivial⟩⟩⟩⟩⟩)) XSs.nil)
  (.one (.ret (.pair (.name (x := l_other_v) (pv 3) rfl rfl) (.name (x := l_other_up) (pv 4) rfl rfl)) ⟨.inl rfl, ⟨.inr rfl, ⟨.inr rfl, ⟨.inr rfl, ⟨.inr rfl, trivial⟩⟩⟩⟩⟩))))))))
/-! ### _law_least -/
abbrev l_least_N : List Str := ["crew", "call", "k"]
abbrev l_least_ps : List Type := [List (Int × Int), (Int × Int)]
abbrev l_least_ls : List Type := [Int]
abbrev l_least_T : List Type := [List (Int × Int), (Int × Int), Int]
abbrev l_least_crew : Var l_least_T (List (Int × Int)) := .vz
abbrev l_least_call : Var l_least_T (Int × Int) := .vs .vz
abbrev l_least_k : Var l_least_T Int := .vs (.vs .vz)
abbrev l_least_G (K : Fr) (v0 v1 : V) : RTs K l_least_T := ((RT.dat K (List (Int × Int)), ((RT.dat K (Int × Int), ((RT.dat K Int, ()) : RT K Int × RTs K [])) : RT K (Int × Int) × RTs K [Int])) : RT K (List (Int × Int)) × RTs K [(Int × Int), Int])
abbrev l_least_Gr (K : Fr) (v0 v1 : V) : RTs K l_least_T := ((RT.dead K (List (Int × Int)), ((RT.dead K (Int × Int), ((RT.dead K Int, ()) : RT K Int × RTs K [])) : RT K (Int × Int) × RTs K [Int])) : RT K (List (Int × Int)) × RTs K [(Int × Int), Int])
abbrev l_least_R (K : Fr) : RT K Int := RT.dat K Int
noncomputable def l_least_m : MS l_least_T Int := (sSeq (sFor (m1 rng (m1 ilen (mV l_least_crew))) (fun y s => l_least_k.set (some y) s) (sIf (m2 ieq (m2 idx (mV l_least_crew) (mV l_least_k)) (mV l_least_call)) (sRet (mV l_least_k)) sSkip))
  (sRet (m1 ilen (mV l_least_crew))))
noncomputable abbrev l_least_fs (K : Fr) : Fs K := { ps := l_least_ps, Γp := (((RT.dat K (List (Int × Int)), ((RT.dat K (Int × Int), ()) : RT K (Int × Int) × RTs K [])) : RT K (List (Int × Int)) × RTs K [(Int × Int)]) : RTs K l_least_ps), Γo := (((RT.dead K (List (Int × Int)), ((RT.dead K (Int × Int), ()) : RT K (Int × Int) × RTs K [])) : RT K (List (Int × Int)) × RTs K [(Int × Int)]) : RTs K l_least_ps), ρ := Int, R := l_least_R K, f := bodyF (ps := l_least_ps) (ls := l_least_ls) l_least_m }
theorem l_least_sc : FnScope ["crew", "call", "k"] ["crew", "call"] (defScope (topS 8)) := ⟨rfl, rfl, rfl, by decide +kernel, rfl, by decide +kernel, by decide +kernel⟩
theorem l_least_ok {fa : Addr} {fd : FuncData} (F : Fun K "_law_least" "_law_least" (topS 8) fa fd) (z_range : mg "range" = none) (z_len : mg "len" = none) : FnOk Pr w K mg base CX0 1 fa fd ["crew", "call"] (spF (l_least_fs K)) := by
  refine fs_ok (k := 0) F l_least_sc (ps := l_least_ps) (ls := l_least_ls) (m := l_least_m) rfl rfl fun cdv A outer s H vs E hl hr => ?_
  obtain ⟨v0, v1, rfl⟩ := len2 hl
  have hu : (A.deeper (PyProof.Rows.envOfC "_law_least" (defScope (topS 8)) s.heap.objs.size fa cdv)).units + 65 < cLine := by have := hr.un; omega
  refine ⟨l_least_G K v0 v1, l_least_Gr K v0 v1, l_least_G K v0 v1, ⟨fun _ _ _ _ _ _ h => h, fun _ _ _ _ _ _ h => h, trivial⟩, ⟨fun _ _ _ _ _ _ _ _ => trivial, fun _ _ _ _ _ _ _ _ => trivial, trivial⟩, ?_⟩
  exact (.cons (Γ1 := l_least_G _ v0 v1)
    (.for_ PassesOwn.never rfl (.range1 (by rfl) z_range (.len (by rfl) z_len (.name (x := l_least_crew) (pv 0) rfl rfl))) ⟨.inl rfl, ⟨.inl rfl, ⟨.inl rfl, trivial⟩⟩⟩ (.name (x := l_least_k) rfl l_least_sc.nd rfl (.inl rfl)) (.one (.ite (.ofC (.eq (.idx (.name (x := l_least_crew) (pv 0) rfl rfl) (.name (x := l_least_k) (pv 2) rfl rfl)) (.name (x := l_least_call) (pv 1) rfl rfl) hu)) (.one (.ret (.name (x := l_least_k) (pv 2) rfl rfl) ⟨.inr rfl, ⟨.inr rfl, ⟨.inr rfl, trivial⟩⟩⟩)) XSs.nil)))
  (.one (.ret (.len (by rfl) z_len (.name (x := l_least_crew) (pv 0) rfl rfl)) ⟨.inr rfl, ⟨.inr rfl, ⟨.inr rfl, trivial⟩⟩⟩)))
/-! ### law -/
abbrev law_N : List Str := ["script", "source", "v", "call", "many", "place", "crew", "passed", "turn", "due", "again", "moved", "k", "actual"]
abbrev law_ps : List Type := [List Int]
abbrev law_ls : List Type := [List Int, Int, (Int × Int), Int, Int, List (Int × Int), List (Int × Int), Int, Int, Int, Int, Int, Int]
abbrev law_T : List Type := [List Int, List Int, Int, (Int × Int), Int, Int, List (Int × Int), List (Int × Int), Int, Int, Int, Int, Int, Int]
abbrev law_script : Var law_T (List Int) := .vz
abbrev law_source : Var law_T (List Int) := .vs .vz
abbrev law_v : Var law_T Int := .vs (.vs .vz)
abbrev law_call : Var law_T (Int × Int) := .vs (.vs (.vs .vz))
abbrev law_many : Var law_T Int := .vs (.vs (.vs (.vs .vz)))
abbrev law_place : Var law_T Int := .vs (.vs (.vs (.vs (.vs .vz))))
abbrev law_crew : Var law_T (List (Int × Int)) := .vs (.vs (.vs (.vs (.vs (.vs .vz)))))
abbrev law_passed : Var law_T (List (Int × Int)) := .vs (.vs (.vs (.vs (.vs (.vs (.vs .vz))))))
abbrev law_turn : Var law_T Int := .vs (.vs (.vs (.vs (.vs (.vs (.vs (.vs .vz)))))))
abbrev law_due : Var law_T Int := .vs (.vs (.vs (.vs (.vs (.vs (.vs (.vs (.vs .vz))))))))
abbrev law_again : Var law_T Int := .vs (.vs (.vs (.vs (.vs (.vs (.vs (.vs (.vs (.vs .vz)))))))))
abbrev law_moved : Var law_T Int := .vs (.vs (.vs (.vs (.vs (.vs (.vs (.vs (.vs (.vs (.vs .vz))))))))))
abbrev law_k : Var law_T Int := .vs (.vs (.vs (.vs (.vs (.vs (.vs (.vs (.vs (.vs (.vs (.vs .vz)))))))))))
abbrev law_actual : Var law_T Int := .vs (.vs (.vs (.vs (.vs (.vs (.vs (.vs (.vs (.vs (.vs (.vs (.vs .vz))))))))))))
abbrev law_G (K : Fr) (v0 : V) : RTs K law_T := ((RT.scr K, ((RT.own K Int, ((RT.dat K Int, ((RT.dat K (Int × Int), ((RT.dat K Int, ((RT.dat K Int, ((RT.own K (Int × Int), ((RT.own K (Int × Int), ((RT.dat K Int, ((RT.dat K Int, ((RT.dat K Int, ((RT.dat K Int, ((RT.dat K Int, ((RT.dat K Int, ()) : RT K Int × RTs K [])) : RT K Int × RTs K [Int])) : RT K Int × RTs K [Int, Int])) : RT K Int × RTs K [Int, Int, Int])) : RT K Int × RTs K [Int, Int, Int, Int])) : RT K Int × RTs K [Int, Int, Int, Int, Int])) : RT K (List (Int × Int)) × RTs K [Int, Int, Int, Int, Int, Int])) : RT K (List (Int × Int)) × RTs K [List (Int × Int), Int, Int, Int, Int, Int, Int])) : RT K Int × RTs K [List (Int × Int), List (Int × Int), Int, Int, Int, Int, Int, Int])) : RT K Int × RTs K [Int, List (Int × Int), List (Int × Int), Int, Int, Int, Int, Int, Int])) : RT K (Int × Int) × RTs K [Int, Int, List (Int × Int), List (Int × Int), Int, Int, Int, Int, Int, Int])) : RT K Int × RTs K [(Int × Int), Int, Int, List (Int × Int), List (Int × Int), Int, Int, Int, Int, Int, Int])) : RT K (List Int) × RTs K [Int, (Int × Int), Int, Int, List (Int × Int), List (Int × Int), Int, Int, Int, Int, Int, Int])) : RT K (List Int) × RTs K [List Int, Int, (Int × Int), Int, Int, List (Int × Int), List (Int × Int), Int, Int, Int, Int, Int, Int])
abbrev law_Gr (K : Fr) (v0 : V) : RTs K law_T := ((RT.dead K (List Int), ((RT.dead K (List Int), ((RT.dead K Int, ((RT.dead K (Int × Int), ((RT.dead K Int, ((RT.dead K Int, ((RT.dead K (List (Int × Int)), ((RT.dead K (List (Int × Int)), ((RT.dead K Int, ((RT.dead K Int, ((RT.dead K Int, ((RT.dead K Int, ((RT.dead K Int, ((RT.dead K Int, ()) : RT K Int × RTs K [])) : RT K Int × RTs K [Int])) : RT K Int × RTs K [Int, Int])) : RT K Int × RTs K [Int, Int, Int])) : RT K Int × RTs K [Int, Int, Int, Int])) : RT K Int × RTs K [Int, Int, Int, Int, Int])) : RT K (List (Int × Int)) × RTs K [Int, Int, Int, Int, Int, Int])) : RT K (List (Int × Int)) × RTs K [List (Int × Int), Int, Int, Int, Int, Int, Int])) : RT K Int × RTs K [List (Int × Int), List (Int × Int), Int, Int, Int, Int, Int, Int])) : RT K Int × RTs K [Int, List (Int × Int), List (Int × Int), Int, Int, Int, Int, Int, Int])) : RT K (Int × Int) × RTs K [Int, Int, List (Int × Int), List (Int × Int), Int, Int, Int, Int, Int, Int])) : RT K Int × RTs K [(Int × Int), Int, Int, List (Int × Int), List (Int × Int), Int, Int, Int, Int, Int, Int])) : RT K (List Int) × RTs K [Int, (Int × Int), Int, Int, List (Int × Int), List (Int × Int), Int, Int, Int, Int, Int, Int])) : RT K (List Int) × RTs K [List Int, Int, (Int × Int), Int, Int, List (Int × Int), List (Int × Int), Int, Int, Int, Int, Int, Int])
abbrev law_R (K : Fr) : RT K Bool := RT.dat K Bool
noncomputable def law_m : MS law_T Bool := (sSeq (sAsg law_source (mCall (.v .nil) (bodyF (ps := l_source_ps) (ls := l_source_ls) l_source_m) (aV (mV law_script) aNil)))
  (sSeq (sAsg law_v (mCall (.m law_source (.v .nil)) (bodyF (ps := l_pick_ps) (ls := l_pick_ls) l_pick_m) (aM law_source (aV (mC (10 : Int)) aNil))))
  (sSeq (sAsg law_call (m2 pair (mC (0 : Int)) (mC (0 : Int))))
  (sSeq (sIf (m2 igt (mV law_v) (mC (0 : Int))) (sAsg law_call (m2 pair (mV law_v) (mCall (.m law_source (.v .nil)) (bodyF (ps := l_pick_ps) (ls := l_pick_ls) l_pick_m) (aM law_source (aV (mC (40 : Int)) aNil))))) sSkip)
  (sSeq (sAsg law_many (m2 iadd (mC (1 : Int)) (mCall (.m law_source (.v .nil)) (bodyF (ps := l_pick_ps) (ls := l_pick_ls) l_pick_m) (aM law_source (aV (mC (4 : Int)) aNil)))))
  (sSeq (sAsg law_place (mCall (.m law_source (.v .nil)) (bodyF (ps := l_pick_ps) (ls := l_pick_ls) l_pick_m) (aM law_source (aV (mV law_many) aNil))))
  (sSeq (sAsg law_crew (mLc (m1 rng (mV law_many)) (fun y s => law_k.set (some y) s) (Own.one law_k).rs (mC true) (mCall (.m law_source (.v .nil)) (bodyF (ps := l_other_ps) (ls := l_other_ls) l_other_m) (aM law_source (aV (mV law_call) aNil)))))
  (sSeq (sSetI law_crew (mV law_place) (mV law_call))
  (sSeq (sAsg law_passed (m1 copyl (mV law_crew)))
  (sSeq (sFor (m1 rng (mC (4 : Int))) (fun y s => law_turn.set (some y) s) (sSeq (sAsg law_due (mCall (.v (.v .nil)) (bodyF (ps := l_least_ps) (ls := l_least_ls) l_least_m) (aV (mV law_crew) (aV (mV law_call) aNil))))
  (sSeq (sFor (m1 rng (mC (2 : Int))) (fun y s => law_again.set (some y) s) (sSeq (sAsg law_actual (mCall (.v (.v .nil)) (bodyF (ps := who_came_ps) (ls := who_came_ls) who_came_m) (aV (mV law_passed) (aV (mV law_call) aNil))))
  (sIf (mOr (m1 bnot (mCall (.v .nil) (bodyF (ps := l_is_integer_ps) (ls := l_is_integer_ls) l_is_integer_m) (aV (mV law_actual) aNil))) (mOr (m2 ine (mV law_actual) (mV law_due)) (m2 ine (mV law_passed) (mV law_crew)))) (sRet (mC false)) sSkip)))
  (sSeq (sAsg law_place (mCall (.m law_source (.v .nil)) (bodyF (ps := l_pick_ps) (ls := l_pick_ls) l_pick_m) (aM law_source (aV (mV law_many) aNil))))
  (sSeq (sAsg law_moved (mV law_due))
  (sSeq (sIf (mOr (m2 ieq (mV law_turn) (mC (1 : Int))) (m2 ieq (m2 cnt (mV law_crew) (mV law_call)) (mC (1 : Int)))) (sSeq (sAsg law_moved (mV law_place))
  (sSetI law_crew (mV law_moved) (mV law_call))) (sSeq (sSetI law_crew (mV law_moved) (m2 pair (mC (9 : Int)) (mC (39 : Int))))
  (sIf (m2 ieq (mV law_call) (m2 pair (mC (9 : Int)) (mC (39 : Int)))) (sSetI law_crew (mV law_moved) (m2 pair (mC (8 : Int)) (mC (39 : Int)))) sSkip)))
  (sSetI law_passed (mV law_moved) (m2 idx (mV law_crew) (mV law_moved)))))))))
  (sRet (mC true))))))))))))
noncomputable abbrev law_fs (K : Fr) : Fs K := { ps := law_ps, Γp := (((RT.scr K, ()) : RT K (List Int) × RTs K []) : RTs K law_ps), Γo := (((RT.dead K (List Int), ()) : RT K (List Int) × RTs K []) : RTs K law_ps), ρ := Bool, R := law_R K, f := bodyF (ps := law_ps) (ls := law_ls) law_m }
theorem law_sc : FnScope ["script", "source", "v", "call", "many", "place", "crew", "passed", "turn", "due", "again", "moved", "k", "actual"] ["script"] (defScope (topS 9)) := ⟨rfl, rfl, rfl, by decide +kernel, rfl, by decide +kernel, by decide +kernel⟩
theorem law_ok {fa : Addr} {fd : FuncData} (F : Fun K "law" "law" (topS 9) fa fd) {a_l_source : Addr} {d_l_source : FuncData} (G_l_source : FnOk Pr w K mg base CX0 2 a_l_source d_l_source ["script"] (spF (l_source_fs K))) (g_l_source : mg "_law_source" = some (.ref a_l_source)) (k_l_source : PySem.W.keepIn K (.ref a_l_source) = true) (b_l_source : Binds K d_l_source ["script"] []) {a_l_pick : Addr} {d_l_pick : FuncData} (G_l_pick : FnOk Pr w K mg base CX0 1 a_l_pick d_l_pick ["source", "size"] (spF (l_pick_fs K))) (g_l_pick : mg "_law_pick" = some (.ref a_l_pick)) (k_l_pick : PySem.W.keepIn K (.ref a_l_pick) = true) (b_l_pick : Binds K d_l_pick ["source", "size"] []) {a_l_other : Addr} {d_l_other : FuncData} (G_l_other : FnOk Pr w K mg base CX0 2 a_l_other d_l_other ["source", "call"] (spF (l_other_fs K))) (g_l_other : mg "_law_other" = some (.ref a_l_other)) (k_l_other : PySem.W.keepIn K (.ref a_l_other) = true) (b_l_other : Binds K d_l_other ["source", "call"] []) {a_l_least : Addr} {d_l_least : FuncData} (G_l_least : FnOk Pr w K mg base CX0 1 a_l_least d_l_least ["crew", "call"] (spF (l_least_fs K))) (g_l_least : mg "_law_least" = some (.ref a_l_least)) (k_l_least : PySem.W.keepIn K (.ref a_l_least) = true) (b_l_least : Binds K d_l_least ["crew", "call"] []) {a_who_came : Addr} {d_who_came : FuncData} (G_who_came : FnOk Pr w K mg base CX0 1 a_who_came d_who_came ["crew", "call"] (spF (who_came_fs K))) (g_who_came : mg "who_came" = some (.ref a_who_came)) (k_who_came : PySem.W.keepIn K (.ref a_who_came) = true) (b_who_came : Binds K d_who_came ["crew", "call"] []) {a_l_is_integer : Addr} {d_l_is_integer : FuncData} (G_l_is_integer : FnOk Pr w K mg base CX0 1 a_l_is_integer d_l_is_integer ["actual"] (spF (l_is_integer_fs K))) (g_l_is_integer : mg "_law_is_integer" = some (.ref a_l_is_integer)) (k_l_is_integer : PySem.W.keepIn K (.ref a_l_is_integer) = true) (b_l_is_integer : Binds K d_l_is_integer ["actual"] []) (z_list : mg "list" = none) (z_range : mg "range" = none) : FnOk Pr w K mg base CX0 3 fa fd ["script"] (spF (law_fs K)) := by
  refine fs_ok (k := 2) F law_sc (ps := law_ps) (ls := law_ls) (m := law_m) rfl rfl fun cdv A outer s H vs E hl hr => ?_
  obtain ⟨v0, rfl⟩ := len1 hl
  have hu : (A.deeper (PyProof.Rows.envOfC "law" (defScope (topS 9)) s.heap.objs.size fa cdv)).units + 65 < cLine := by have := hr.un; omega
  refine ⟨law_G K v0, law_Gr K v0, law_G K v0, ⟨fun _ _ _ _ _ _ h => h, trivial⟩, ⟨fun _ _ _ _ _ _ _ _ => trivial, trivial⟩, ?_⟩
  exact (.cons (Γ1 := law_G _ v0)
    (.asg (x := law_source) (.call (.v .nil) G_l_source (hr.mono (by decide)) (by rfl) g_l_source k_l_source b_l_source (.v rfl (.name (x := law_script) (pv 0) rfl rfl) XA.nil) (om := trivial)) law_sc.nd rfl (.inr rfl))
  (.cons (Γ1 := law_G _ v0)
    (.asg (x := law_v) (.call (.m law_source (.v .nil)) G_l_pick (hr.mono (by decide)) (by rfl) g_l_pick k_l_pick b_l_pick (.m (x := law_source) (pv 1) .refl rfl (.v rfl .int XA.nil)) (om := ⟨rfl, trivial⟩)) law_sc.nd rfl (.inl rfl))
  (.cons (Γ1 := law_G _ v0)
    (.asg (x := law_call) (.pair .int .int) law_sc.nd rfl (.inr rfl))
  (.cons (Γ1 := law_G _ v0)
    (.ite (.ofC (.gt (.name (x := law_v) (pv 2) rfl rfl) .int)) (.one (.asg (x := law_call) (.pair (.name (x := law_v) (pv 2) rfl rfl) (.call (.m law_source (.v .nil)) G_l_pick (hr.mono (by decide)) (by rfl) g_l_pick k_l_pick b_l_pick (.m (x := law_source) (pv 1) .refl rfl (.v rfl .int XA.nil)) (om := ⟨rfl, trivial⟩))) law_sc.nd rfl (.inr rfl))) XSs.nil)
  (.cons (Γ1 := law_G _ v0)
    (.asg (x := law_many) (.add .int (.call (.m law_source (.v .nil)) G_l_pick (hr.mono (by decide)) (by rfl) g_l_pick k_l_pick b_l_pick (.m (x := law_source) (pv 1) .refl rfl (.v rfl .int XA.nil)) (om := ⟨rfl, trivial⟩))) law_sc.nd rfl (.inl rfl))
  (.cons (Γ1 := law_G _ v0)
    (.asg (x := law_place) (.call (.m law_source (.v .nil)) G_l_pick (hr.mono (by decide)) (by rfl) g_l_pick k_l_pick b_l_pick (.m (x := law_source) (pv 1) .refl rfl (.v rfl (.name (x := law_many) (pv 4) rfl rfl) XA.nil)) (om := ⟨rfl, trivial⟩)) law_sc.nd rfl (.inl rfl))
  (.cons (Γ1 := law_G _ v0)
    (.asgLc (z := law_crew) (own := [("k", 12)]) rfl law_sc.nd (blkOk_by (N := law_N) (sc := defScope (topS 9)) (by decide +kernel)) (Own.one law_k) rfl rfl (sw_true rfl rfl rfl (by decide +kernel)) (.range1 (by rfl) z_range (.name (x := law_many) (pv 4) rfl rfl)) (fixAt rfl) (fun _ _ _ => rfl) (fun _ _ _ _ _ => (.name (x := law_k) rfl law_sc.nd rfl (.inl rfl))) (fun _ _ _ _ _ => XTs.nil) (fun _ _ _ _ _ => (.call (.m law_source (.v .nil)) G_l_other (hr.mono (by decide)) (by rfl) g_l_other k_l_other b_l_other (.m (x := law_source) (pv 1) .refl rfl (.v rfl (.name (x := law_call) (pv 3) rfl rfl) XA.nil)) (om := ⟨rfl, trivial⟩))))
  (.cons (Γ1 := law_G _ v0)
    (.setI (x := law_crew) (pv 6) .refl (.name (x := law_call) (pv 3) rfl rfl) (.name (x := law_place) (pv 5) rfl rfl))
  (.cons (Γ1 := law_G _ v0)
    (.asg (x := law_passed) (.borrow law_crew (.list (by rfl) z_list (.var (x := law_crew) (pv 6) rfl rfl (fun _ _ _ h => h))) (lin_of rfl)) law_sc.nd rfl (.inl rfl))
  (.cons (Γ1 := law_G _ v0)
    (.for_ PassesOwn.never rfl (.range1 (by rfl) z_range .int) ⟨.inl rfl, ⟨.inl rfl, ⟨.inl rfl, ⟨.inl rfl, ⟨.inl rfl, ⟨.inl rfl, ⟨.inl rfl, ⟨.inl rfl, ⟨.inl rfl, ⟨.inl rfl, ⟨.inl rfl, ⟨.inl rfl, ⟨.inl rfl, ⟨.inl rfl, trivial⟩⟩⟩⟩⟩⟩⟩⟩⟩⟩⟩⟩⟩⟩ (.name (x := law_turn) rfl law_sc.nd rfl (.inl rfl)) (.cons (Γ1 := law_G _ v0)
    (.asg (x := law_due) (.borrow law_crew (.call (.v (.v .nil)) G_l_least (hr.mono (by decide)) (by rfl) g_l_least k_l_least b_l_least (.v rfl (.var (x := law_crew) (pv 6) rfl rfl (fun _ _ _ h => h)) (.v rfl (.name (x := law_call) (pv 3) rfl rfl) XA.nil)) (om := trivial)) (lin_dat)) law_sc.nd rfl (.inl rfl))
  (.cons (Γ1 := law_G _ v0)
    (.for_ PassesOwn.never rfl (.range1 (by rfl) z_range .int) ⟨.inl rfl, ⟨.inl rfl, ⟨.inl rfl, ⟨.inl rfl, ⟨.inl rfl, ⟨.inl rfl, ⟨.inl rfl, ⟨.inl rfl, ⟨.inl rfl, ⟨.inl rfl, ⟨.inl rfl, ⟨.inl rfl, ⟨.inl rfl, ⟨.inl rfl, trivial⟩⟩⟩⟩⟩⟩⟩⟩⟩⟩⟩⟩⟩⟩ (.name (x := law_again) rfl law_sc.nd rfl (.inl rfl)) (.cons (Γ1 := law_G _ v0)
    (.asg (x := law_actual) (.borrow law_passed (.call (.v (.v .nil)) G_who_came (hr.mono (by decide)) (by rfl) g_who_came k_who_came b_who_came (.v rfl (.var (x := law_passed) (pv 7) rfl rfl (fun _ _ _ h => h)) (.v rfl (.name (x := law_call) (pv 3) rfl rfl) XA.nil)) (om := trivial)) (lin_dat)) law_sc.nd rfl (.inl rfl))
  (.one (.ite (XT.borrow law_crew (XT.borrow law_passed (.ofW (.or (.not (.val (.call (.v .nil) G_l_is_integer (hr.mono (by decide)) (by rfl) g_l_is_integer k_l_is_integer b_l_is_integer (.v rfl (.name (x := law_actual) (pv 13) rfl rfl) XA.nil) (om := trivial)))) (.or (.ofC (.ne (.name (x := law_actual) (pv 13) rfl rfl) (.name (x := law_due) (pv 9) rfl rfl) hu)) (.or1 (.ofC (.ne (.var (x := law_passed) (pv 7) rfl rfl (fun _ _ _ h => h)) (.var (x := law_crew) (pv 6) rfl rfl (fun _ _ _ h => h)) hu)))))))) (.one (.ret .bl ⟨.inr rfl, ⟨.inr rfl, ⟨.inr rfl, ⟨.inr rfl, ⟨.inr rfl, ⟨.inr rfl, ⟨.inr rfl, ⟨.inr rfl, ⟨.inr rfl, ⟨.inr rfl, ⟨.inr rfl, ⟨.inr rfl, ⟨.inr rfl, ⟨.inr rfl, trivial⟩⟩⟩⟩⟩⟩⟩⟩⟩⟩⟩⟩⟩⟩)) XSs.nil))))
  (.cons (Γ1 := law_G _ v0)
    (.asg (x := law_place) (.call (.m law_source (.v .nil)) G_l_pick (hr.mono (by decide)) (by rfl) g_l_pick k_l_pick b_l_pick (.m (x := law_source) (pv 1) .refl rfl (.v rfl (.name (x := law_many) (pv 4) rfl rfl) XA.nil)) (om := ⟨rfl, trivial⟩)) law_sc.nd rfl (.inl rfl))
  (.cons (Γ1 := law_G _ v0)
    (.asg (x := law_moved) (.name (x := law_due) (pv 9) rfl rfl) law_sc.nd rfl (.inl rfl))
  (.cons (Γ1 := law_G _ v0)
    (.ite (XT.borrow law_crew (.ofW (.or (.ofC (.eq (.name (x := law_turn) (pv 8) rfl rfl) .int hu)) (.or1 (.ofC (.eq (.count (.var (x := law_crew) (pv 6) rfl rfl (fun _ _ _ h => h)) (.name (x := law_call) (pv 3) rfl rfl) hu) .int hu)))))) (.cons (Γ1 := law_G _ v0)
    (.asg (x := law_moved) (.name (x := law_place) (pv 5) rfl rfl) law_sc.nd rfl (.inl rfl))
  (.one (.setI (x := law_crew) (pv 6) .refl (.name (x := law_call) (pv 3) rfl rfl) (.name (x := law_moved) (pv 11) rfl rfl)))) (.cons (Γ1 := law_G _ v0)
    (.setI (x := law_crew) (pv 6) .refl (.pair .int .int) (.name (x := law_moved) (pv 11) rfl rfl))
  (.one (.ite (.ofC (.eq (.name (x := law_call) (pv 3) rfl rfl) (.pair .int .int) hu)) (.one (.setI (x := law_crew) (pv 6) .refl (.pair .int .int) (.name (x := law_moved) (pv 11) rfl rfl))) XSs.nil))))
  (.one (.setI (x := law_passed) (pv 7) .refl (.borrow law_crew (.idx (.var (x := law_crew) (pv 6) rfl rfl (fun _ _ _ h => h)) (.name (x := law_moved) (pv 11) rfl rfl)) (lin_dat)) (.name (x := law_moved) (pv 11) rfl rfl)))))))))
  (.one (.ret .bl ⟨.inr rfl, ⟨.inr rfl, ⟨.inr rfl, ⟨.inr rfl, ⟨.inr rfl, ⟨.inr rfl, ⟨.inr rfl, ⟨.inr rfl, ⟨.inr rfl, ⟨.inr rfl, ⟨.inr rfl, ⟨.inr rfl, ⟨.inr rfl, ⟨.inr rfl, trivial⟩⟩⟩⟩⟩⟩⟩⟩⟩⟩⟩⟩⟩⟩))))))))))))
end
theorem all_mk {l : PySem.W.OpenLaw} {w : World} {K : Fr} {h : Heap} {mg : Str → Option Value} {fa f0 f1 f2 f3 f4 f5 f6 f7 : Addr} (X : K.In h) (G : h.Ns mainGlobals mg) (hfa : mg "law" = some (.ref fa))
    {od0 an0 od1 an1 od2 an2 od3 an3 od4 an4 od5 an5 od6 an6 od7 an7 : Option Addr} {sl0 sl1 sl2 sl3 sl4 sl5 sl6 sl7 : Array (Option Value)} {oc0 kV0 dc0 pm0 cd0 ct0 oc1 kV1 dc1 pm1 cd1 ct1 oc2 kV2 dc2 pm2 cd2 ct2 oc3 kV3 dc3 pm3 cd3 ct3 oc4 kV4 dc4 pm4 cd4 ct4 oc5 kV5 dc5 pm5 cd5 ct5 oc6 kV6 dc6 pm6 cd6 ct6 oc7 kV7 dc7 pm7 cd7 ct7 : Value}
    (a0 : PySem.W.nsIn K mainGlobals "who_came" = some (some (.ref f0))) (l0 : K.lookup f0 = some ⟨oc0, od0, .func (PySem.W.fnOf "who_came" "who_came" (defArgs (topS 1)) (defBody (topS 1)) (defScope (topS 1)) .none kV0 dc0 pm0 an0 cd0 ct0), sl0⟩) (c0 : PySem.W.codeIn K cd0 "who_came" = true) (k0 : PySem.W.keepIn K (.ref f0) = true)
    (a1 : PySem.W.nsIn K mainGlobals "_law_mixed" = some (some (.ref f1))) (l1 : K.lookup f1 = some ⟨oc1, od1, .func (PySem.W.fnOf "_law_mixed" "_law_mixed" (defArgs (topS 3)) (defBody (topS 3)) (defScope (topS 3)) .none kV1 dc1 pm1 an1 cd1 ct1), sl1⟩) (c1 : PySem.W.codeIn K cd1 "_law_mixed" = true) (k1 : PySem.W.keepIn K (.ref f1) = true)
    (a2 : PySem.W.nsIn K mainGlobals "_law_source" = some (some (.ref f2))) (l2 : K.lookup f2 = some ⟨oc2, od2, .func (PySem.W.fnOf "_law_source" "_law_source" (defArgs (topS 4)) (defBody (topS 4)) (defScope (topS 4)) .none kV2 dc2 pm2 an2 cd2 ct2), sl2⟩) (c2 : PySem.W.codeIn K cd2 "_law_source" = true) (k2 : PySem.W.keepIn K (.ref f2) = true)
    (a3 : PySem.W.nsIn K mainGlobals "_law_pick" = some (some (.ref f3))) (l3 : K.lookup f3 = some ⟨oc3, od3, .func (PySem.W.fnOf "_law_pick" "_law_pick" (defArgs (topS 5)) (defBody (topS 5)) (defScope (topS 5)) .none kV3 dc3 pm3 an3 cd3 ct3), sl3⟩) (c3 : PySem.W.codeIn K cd3 "_law_pick" = true) (k3 : PySem.W.keepIn K (.ref f3) = true)
    (a4 : PySem.W.nsIn K mainGlobals "_law_is_integer" = some (some (.ref f4))) (l4 : K.lookup f4 = some ⟨oc4, od4, .func (PySem.W.fnOf "_law_is_integer" "_law_is_integer" (defArgs (topS 6)) (defBody (topS 6)) (defScope (topS 6)) .none kV4 dc4 pm4 an4 cd4 ct4), sl4⟩) (c4 : PySem.W.codeIn K cd4 "_law_is_integer" = true) (k4 : PySem.W.keepIn K (.ref f4) = true)
    (a5 : PySem.W.nsIn K mainGlobals "_law_other" = some (some (.ref f5))) (l5 : K.lookup f5 = some ⟨oc5, od5, .func (PySem.W.fnOf "_law_other" "_law_other" (defArgs (topS 7)) (defBody (topS 7)) (defScope (topS 7)) .none kV5 dc5 pm5 an5 cd5 ct5), sl5⟩) (c5 : PySem.W.codeIn K cd5 "_law_other" = true) (k5 : PySem.W.keepIn K (.ref f5) = true)
    (a6 : PySem.W.nsIn K mainGlobals "_law_least" = some (some (.ref f6))) (l6 : K.lookup f6 = some ⟨oc6, od6, .func (PySem.W.fnOf "_law_least" "_law_least" (defArgs (topS 8)) (defBody (topS 8)) (defScope (topS 8)) .none kV6 dc6 pm6 an6 cd6 ct6), sl6⟩) (c6 : PySem.W.codeIn K cd6 "_law_least" = true) (k6 : PySem.W.keepIn K (.ref f6) = true)
    (a7 : PySem.W.nsIn K mainGlobals "law" = some (some (.ref f7))) (l7 : K.lookup f7 = some ⟨oc7, od7, .func (PySem.W.fnOf "law" "law" (defArgs (topS 9)) (defBody (topS 9)) (defScope (topS 9)) .none kV7 dc7 pm7 an7 cd7 ct7), sl7⟩) (c7 : PySem.W.codeIn K cd7 "law" = true) (k7 : PySem.W.keepIn K (.ref f7) = true)
    (z0 : PySem.W.nsIn K mainGlobals "range" = some none) (z1 : PySem.W.nsIn K mainGlobals "int" = some none) (z2 : PySem.W.nsIn K mainGlobals "isinstance" = some none) (z3 : PySem.W.nsIn K mainGlobals "bool" = some none) (z4 : PySem.W.nsIn K mainGlobals "len" = some none) (z5 : PySem.W.nsIn K mainGlobals "list" = some none) :
    ∃ fd : FuncData, (∀ (s : Shared) (v : Value), BindsTo s fd ⟨[v], []⟩ [("script", v)]) ∧ ∀ base : Heap, K.In base → base.Ns mainGlobals mg → FnOk l.prog w K mg base CX0 3 fa fd ["script"] (spF (lawFs K (bodyF (ps := law_ps) (ls := law_ls) law_m))) := by
  have e := hfa.symm.trans (PySem.W.mg_of X G a7)
  cases e
  have y_range := PySem.W.mg_none_of X G z0
  have y_int := PySem.W.mg_none_of X G z1
  have y_isinstance := PySem.W.mg_none_of X G z2
  have y_bool := PySem.W.mg_none_of X G z3
  have y_len := PySem.W.mg_none_of X G z4
  have y_list := PySem.W.mg_none_of X G z5
  have F0 := fun_mk (st := (topS 1)) l0 c0 k0
  have b0 := F0.binds (ps := ["crew", "call"]) fun _ _ _ _ _ _ us hl => match us, hl with | [_, _], _ => rfl
  have g0 := PySem.W.mg_of X G a0
  have F1 := fun_mk (st := (topS 3)) l1 c1 k1
  have b1 := F1.binds (ps := ["cell"]) fun _ _ _ _ _ _ us hl => match us, hl with | [_], _ => rfl
  have g1 := PySem.W.mg_of X G a1
  have F2 := fun_mk (st := (topS 4)) l2 c2 k2
  have b2 := F2.binds (ps := ["script"]) fun _ _ _ _ _ _ us hl => match us, hl with | [_], _ => rfl
  have g2 := PySem.W.mg_of X G a2
  have F3 := fun_mk (st := (topS 5)) l3 c3 k3
  have b3 := F3.binds (ps := ["source", "size"]) fun _ _ _ _ _ _ us hl => match us, hl with | [_, _], _ => rfl
  have g3 := PySem.W.mg_of X G a3
  have F4 := fun_mk (st := (topS 6)) l4 c4 k4
  have b4 := F4.binds (ps := ["actual"]) fun _ _ _ _ _ _ us hl => match us, hl with | [_], _ => rfl
  have g4 := PySem.W.mg_of X G a4
  have F5 := fun_mk (st := (topS 7)) l5 c5 k5
  have b5 := F5.binds (ps := ["source", "call"]) fun _ _ _ _ _ _ us hl => match us, hl with | [_, _], _ => rfl
  have g5 := PySem.W.mg_of X G a5
  have F6 := fun_mk (st := (topS 8)) l6 c6 k6
  have b6 := F6.binds (ps := ["crew", "call"]) fun _ _ _ _ _ _ us hl => match us, hl with | [_, _], _ => rfl
  have g6 := PySem.W.mg_of X G a6
  have F7 := fun_mk (st := (topS 9)) l7 c7 k7
  have b7 := F7.binds (ps := ["script"]) fun _ _ _ _ _ _ us hl => match us, hl with | [_], _ => rfl
  have g7 := PySem.W.mg_of X G a7
  refine ⟨PySem.W.fnOf "law" "law" (defArgs (topS 9)) (defBody (topS 9)) (defScope (topS 9)) .none kV7 dc7 pm7 an7 cd7 ct7, fun s v => .of_eq rfl, fun base _ _ => ?_⟩
  have G0 := who_came_ok (Pr := l.prog) (w := w) (base := base) (mg := mg) F0  
  have G1 := l_mixed_ok (Pr := l.prog) (w := w) (base := base) (mg := mg) F1  y_range y_int
  have G3 := l_pick_ok (Pr := l.prog) (w := w) (base := base) (mg := mg) F3  y_int
  have G4 := l_is_integer_ok (Pr := l.prog) (w := w) (base := base) (mg := mg) F4  y_isinstance y_int y_bool
  have G6 := l_least_ok (Pr := l.prog) (w := w) (base := base) (mg := mg) F6  y_range y_len
  have G2 := l_source_ok (Pr := l.prog) (w := w) (base := base) (mg := mg) F2 G1 g1 k1 b1 
  have G5 := l_other_ok (Pr := l.prog) (w := w) (base := base) (mg := mg) F5 G3 g3 k3 b3 
  have G7 := law_ok (Pr := l.prog) (w := w) (base := base) (mg := mg) F7 G2 g2 k2 b2 G3 g3 k3 b3 G5 g5 k5 b5 G6 g6 k6 b6 G0 g0 k0 b0 G4 g4 k4 b4 y_list y_range
  exact G7
end Lw
namespace Lw
open Sm PySem
local macro_rules | `(tactic| walk_at "sm") => `(tactic| simp only [ext, prj, nones, mC, mV, m1, m2, m3, mIte, mAnd, mOr, sSeq, sAsg, sRet, sIf, sDrop, sSkip, sFail, sBk, sCt, sSetI, sApp, sAug, sAsgG, sPar, mCall, Ks.put, aV, aM, aNil, Var.get, Var.set, Option.bind_assoc, Option.bind_some, Option.bind_none, Option.map_some, run_some, iadd, isub, ineg, ilt_eq, ile_eq, igt_eq, ige_eq, ieq, ine, ilen, idt, fst', snd', pair, trip, iabs, imax, imin, bnot, copyl, consO, isT, if_true, if_false, Bool.false_eq_true, decide_eq_true_eq, idx0, setAt0, Bool.not_true, Bool.not_false, Own.one, imod_pos, Bool.or_eq_true, Bool.and_eq_true, Bool.not_eq_true'])
theorem pick {P : _ → Prop} (n k : Int) (h : 0 < k) (h2 : k < 1073741824) (q : P (n % k, (some [n / k], some k, ()))) : Run (bodyF (ps := l_pick_ps) (ls := l_pick_ls) l_pick_m (some [n], some k, ())) P := by
  refine Run.body ?_
  unfold l_pick_m
  walk_at "sm"
  rw [imod_pos h]
  walk_at "sm"
  rw [idiv_pos h h2]
  walk_at "sm"
  exact q
theorem isInt {P : _ → Prop} (n : Int) (q : P (true, (some n, ()))) : Run (bodyF (ps := l_is_integer_ps) (ls := l_is_integer_ls) l_is_integer_m (some n, ())) P := by
  refine Run.body ?_
  unfold l_is_integer_m
  walk_at "sm"
  exact q
theorem mixed (c : Int) : Run (bodyF (ps := l_mixed_ps) (ls := l_mixed_ls) l_mixed_m (some c, ())) fun p => p.2 = (some c, ()) := by
  refine Run.body ?_
  unfold l_mixed_m
  walk_at "sm"
  rw [imod_pos (by decide)]
  walk_at "sm"
  have hb : 0 ≤ c % 2305843009213693907 + 2 ∧ c % 2305843009213693907 + 2 < 2305843009213693951 := by omega
  generalize c % 2305843009213693907 + 2 = nb at hb
  refine Run.bind (Run.forR (αs := l_mixed_T) (n := 10) rfl (by decide) (fun _ s => ∃ n t k r, s = (some c, some n, some t, k, r, ()) ∧ 0 ≤ n ∧ n < 2305843009213693951) ⟨nb, 0, none, none, rfl, hb⟩ ?_) ?_
  · rintro j s hj ⟨n, t, k, r, rfl, h0, h1⟩
    walk_at "sm"
    rw [imul_l (by omega)]
    walk_at "sm"
    rw [imul_r (by decide)]
    walk_at "sm"
    rw [imul_l (by omega)]
    walk_at "sm"
    rw [imul_r (by decide)]
    walk_at "sm"
    rw [imod_pos (by decide)]
    walk_at "sm"
    rw [imul_r (by decide)]
    walk_at "sm"
    exact ⟨trivial, _, _, _, _, rfl, Int.emod_nonneg _ (by decide), Int.emod_lt_of_pos _ (by decide)⟩
  · rintro ⟨x, s⟩ ⟨hx, n, t, k, r, hs, h3, h4⟩
    cases hx
    cases hs
    walk_at "sm"
    rfl
theorem ipow_18 : ipow 10 18 = some 1000000000000000000 := by rw [ipow_eq, if_pos (by decide)]; rfl
theorem source (ns : List Int) : Run (bodyF (ps := l_source_ps) (ls := l_source_ls) l_source_m (some ns, ())) fun p => p.2 = (some ns, ()) ∧ ∃ n, p.1 = [n] := by
  refine Run.body ?_
  unfold l_source_m
  walk_at "sm"
  refine Run.bind (Run.forL (αs := l_source_T) (xs := ns) rfl (fun _ s => ∃ t c, s = (some ns, some t, c, ())) ⟨0, none, rfl⟩ ?_) ?_
  · rintro j x s hj ⟨t, c, rfl⟩
    walk_at "sm"
    rw [ipow_18]
    walk_at "sm"
    refine Run.ite (fun h => ?_) (fun h => ?_)
    · rw [imul_r (by decide)]
      walk_at "sm"
      exact ⟨trivial, _, _, rfl⟩
    · rw [imul_r (by decide)]
      walk_at "sm"
      refine Run.bind (mixed x) fun p hp => ?_
      walk_at "sm"
      exact ⟨trivial, _, _, rfl⟩
  · rintro ⟨x, s⟩ ⟨hx, t, c, hs⟩
    cases hx
    cases hs
    walk_at "sm"
    rw [lstO_ok (by simp)]
    walk_at "sm"
    exact ⟨rfl, _, rfl⟩
theorem other (n : Int) (call : Int × Int) : Run (bodyF (ps := l_other_ps) (ls := l_other_ls) l_other_m (some [n], some call, ())) fun p => ∃ n', p.2 = (some [n'], some call, ()) := by
  refine Run.body ?_
  unfold l_other_m
  walk_at "sm"
  refine Run.bind (pick (P := fun p => ∃ v m, p = (v, (some [m], some 4, ()))) n 4 (by decide) (by decide) ⟨_, _, rfl⟩) ?_
  rintro _ ⟨k, m0, rfl⟩
  walk_at "sm"
  refine Run.bind (pick (P := fun p => ∃ v m, p = (v, (some [m], some 9, ()))) _ 9 (by decide) (by decide) ⟨_, _, rfl⟩) ?_
  rintro _ ⟨v, m, rfl⟩
  walk_at "sm"
  refine Run.bind (pick (P := fun p => ∃ v m, p = (v, (some [m], some 40, ()))) _ 40 (by decide) (by decide) ⟨_, _, rfl⟩) ?_
  rintro _ ⟨u, m', rfl⟩
  walk_at "sm"
  refine Run.iteB (fun h => ?_) (fun h => ?_) <;> walk_at "sm"
  · exact ⟨_, rfl⟩
  refine Run.iteB (fun h => ?_) (fun h => ?_) <;> walk_at "sm"
  · refine Run.iteB (fun h => ?_) (fun h => ?_) <;> walk_at "sm"
    · exact ⟨_, rfl⟩
    · refine Run.iteB (fun h => ?_) (fun h => ?_) <;> walk_at "sm" <;> exact ⟨_, rfl⟩
  · refine Run.iteB (fun h => ?_) (fun h => ?_) <;> walk_at "sm" <;> exact ⟨_, rfl⟩
/-- the first place of the call -/
theorem least (crew : List (Int × Int)) (call : Int × Int) (j : Nat) (hl : crew.length ≤ 1000) (hj : crew.findIdx? (· = call) = some j) : Run (bodyF (ps := l_least_ps) (ls := l_least_ls) l_least_m (some crew, some call, ())) fun p => p = ((j : Int), (some crew, some call, ())) := by
  obtain ⟨hlt, h1, h2⟩ := List.findIdx?_eq_some_iff_getElem.mp hj
  refine Run.body ?_
  unfold l_least_m
  walk_at "sm"
  refine Run.bind (Run.forRr (αs := l_least_T) (n := (crew.length : Int)) rfl (by omega) (fun i s => i ≤ j ∧ ∃ k, s = (some crew, some call, k, ())) (fun r s => r = (j : Int) ∧ ∃ k, s = (some crew, some call, k, ())) ⟨Nat.zero_le _, none, rfl⟩ ?_) ?_
  · rintro i s hi ⟨hij, k, rfl⟩
    walk_at "sm"
    have hi' : i < crew.length := by omega
    rw [idx_at hi']
    walk_at "sm"
    refine Run.ite (fun h => ?_) (fun h => ?_)
    · walk_at "sm"
      right
      have : ¬ i < j := fun q => by
        have := h2 i q
        rw [h] at this
        simp at this
      have e : i = j := by omega
      subst e
      exact ⟨_, rfl, rfl, _, rfl⟩
    · walk_at "sm"
      left
      have : i ≠ j := fun q => by
        subst q
        exact h (by simpa using h1)
      exact ⟨trivial, by omega, _, rfl⟩
  · rintro ⟨x, s⟩ (⟨hx, hc, _⟩ | ⟨r, hx, hr, k, hs⟩)
    · exfalso
      have : crew.length ≤ j := by simpa using hc
      omega
    · cases hx
      cases hs
      walk_at "sm"
      rw [hr]
      rfl
theorem came (crew : List (Int × Int)) (call : Int × Int) (j : Nat) (hj : crew.findIdx? (· = call) = some j) : Run (bodyF (ps := who_came_ps) (ls := who_came_ls) who_came_m (some crew, some call, ())) fun p => p = ((j : Int), (some crew, some call, ())) := by
  refine Run.body ?_
  unfold who_came_m
  walk_at "sm"
  unfold indexOf
  rw [hj]
  walk_at "sm"
  rfl
theorem find_of {crew : List (Int × Int)} {call : Int × Int} (h : call ∈ crew) : ∃ j, crew.findIdx? (· = call) = some j := by
  cases e : crew.findIdx? (· = call) with
  | some j => exact ⟨j, rfl⟩
  | none =>
    have := List.findIdx?_eq_none_iff.mp e call h
    simp at this
/-- where the call stands twice one may go away -/
theorem stays {crew : List (Int × Int)} {call p : Int × Int} {j : Nat} (hj : crew.findIdx? (· = call) = some j) (h : (crew.filter (· = call)).length ≠ 1) : call ∈ crew.set j p := by
  obtain ⟨hlt, h1, h2⟩ := List.findIdx?_eq_some_iff_getElem.mp hj
  have hc : crew[j] = call := by simpa using h1
  have e : crew = crew.take j ++ call :: crew.drop (j + 1) := by
    conv => lhs; rw [← List.take_append_drop j crew]
    rw [List.drop_eq_getElem_cons hlt, hc]
  have h0 : (crew.take j).filter (· = call) = [] := by
    rw [List.filter_eq_nil_iff]
    intro x hx
    obtain ⟨i, hi, rfl⟩ := List.getElem_of_mem hx
    have hi' : i < j := by rw [List.length_take] at hi; omega
    rw [List.getElem_take]
    exact h2 i hi'
  rw [e, List.filter_append, h0, List.nil_append, List.filter_cons, if_pos (by simp), List.length_cons] at h
  have hne : (crew.drop (j + 1)).filter (· = call) ≠ [] := fun q => h (by rw [q]; rfl)
  obtain ⟨x, hx⟩ := List.exists_mem_of_ne_nil _ hne
  rw [List.mem_filter] at hx
  have hx2 : x = call := by simpa using hx.2
  subst hx2
  rw [List.set_eq_take_append_cons_drop, if_pos hlt]
  exact List.mem_append_right _ (List.mem_cons_of_mem _ hx.1)
theorem law_run (ns : List Int) (hn : ns.length ≤ 63) : Run (bodyF (ps := law_ps) (ls := law_ls) law_m (some ns, ())) fun p => p.1 = true := by
  refine Run.body ?_
  unfold law_m
  walk_at "sm"
  refine Run.bind (source ns) ?_
  rintro ⟨_, s⟩ ⟨hs, n, rfl⟩
  cases hs
  walk_at "sm"
  refine Run.bind (pick (P := fun p => ∃ v m, p = (v, (some [m], some 10, ()))) n 10 (by decide) (by decide) ⟨_, _, rfl⟩) ?_
  rintro _ ⟨v, m0, rfl⟩
  walk_at "sm"
  refine Run.bind (P := fun p => ∃ (call : Int × Int) (m : Int), p = (Ctl.nx, ((some ns, some [m], some v, some call, none, none, none, none, none, none, none, none, none, none, ()) : Sm.Env law_T))) (Run.ite (fun h => ?_) (fun h => ?_)) ?_
  · refine Run.bind (pick (P := fun p => ∃ v m, p = (v, (some [m], some 40, ()))) _ 40 (by decide) (by decide) ⟨_, _, rfl⟩) ?_
    rintro _ ⟨u, m, rfl⟩
    exact .some ⟨(v, u), m, rfl⟩
  · exact .some ⟨(0, 0), m0, rfl⟩
  rintro _ ⟨call, m, rfl⟩
  walk_at "sm"
  refine Run.bind (pick (P := fun p => ∃ v m, p = (v, (some [m], some 4, ())) ∧ 0 ≤ v ∧ v < 4) _ 4 (by decide) (by decide) ⟨_, _, rfl, Int.emod_nonneg _ (by decide), Int.emod_lt_of_pos _ (by decide)⟩) ?_
  rintro _ ⟨many0, m1', rfl, hm0, hm1⟩
  walk_at "sm"
  have hmany : 1 ≤ 1 + many0 ∧ 1 + many0 ≤ 4 := by omega
  generalize 1 + many0 = many at hmany
  refine Run.bind (pick (P := fun p => ∃ v m, p = (v, (some [m], some many, ())) ∧ 0 ≤ v ∧ v < many) _ many (by omega) (by omega) ⟨_, _, rfl, Int.emod_nonneg _ (by omega), Int.emod_lt_of_pos _ (by omega)⟩) ?_
  rintro _ ⟨place, m2', rfl, hp0, hp1⟩
  walk_at "sm"
  refine Run.bind (Run.lcR (αs := law_T) (n := many) rfl (by omega) (fun s => ∃ m, s = (some ns, some [m], some v, some call, some many, some place, none, none, none, none, none, none, none, none, ())) (fun _ => True) ⟨_, rfl⟩ ?_) ?_
  · rintro x s ⟨m, rfl⟩
    walk_at "sm"
    refine ⟨trivial, ?_⟩
    refine Run.bind (other m call) ?_
    rintro ⟨q, s'⟩ ⟨m', hs⟩
    cases hs
    walk_at "sm"
    exact ⟨trivial, _, rfl⟩
  rintro ⟨crew, s⟩ ⟨hlen, _, m3', hs⟩
  cases hs
  walk_at "sm"
  obtain ⟨pj, rfl⟩ : ∃ j : Nat, place = (j : Int) := ⟨place.toNat, by omega⟩
  have hlen' : crew.length = many.toNat := hlen
  have hpj : pj < crew.length := by omega
  rw [setAt_nat hpj]
  walk_at "sm"
  have hcm : call ∈ crew.set pj call := by
    rw [List.set_eq_take_append_cons_drop, if_pos hpj]
    exact List.mem_append_right _ List.mem_cons_self
  have hcl : (crew.set pj call).length = many.toNat := by rw [List.length_set]; exact hlen'
  generalize crew.set pj call = cr at hcm hcl
  refine Run.bind (Run.forR (αs := law_T) (n := 4) rfl (by decide) (fun _ s => ∃ (cr : List (Int × Int)) (m : Int) (place : Int) (a b c d e f : Option Int), s = (some ns, some [m], some v, some call, some many, some place, some cr, some cr, a, b, c, d, e, f, ()) ∧ call ∈ cr ∧ cr.length = many.toNat)
    ⟨cr, _, _, none, none, none, none, none, none, rfl, hcm, hcl⟩ ?_) ?_
  · clear hcm hcl cr
    rintro i s hi ⟨cr, m, place, a, b, c, d, e, f, rfl, hcm, hcl⟩
    obtain ⟨j, hj⟩ := find_of hcm
    have hjl : j < cr.length := (List.findIdx?_eq_some_iff_getElem.mp hj).1
    walk_at "sm"
    refine Run.bind (least cr call j (by omega) hj) ?_
    rintro _ rfl
    walk_at "sm"
    refine Run.bind (Run.forR (αs := law_T) (n := 2) rfl (by decide) (fun _ s => ∃ (c f : Option Int), s = (some ns, some [m], some v, some call, some many, some place, some cr, some cr, some (i : Int), some (j : Int), c, d, e, f, ())) ⟨_, _, rfl⟩ ?_) ?_
    · rintro i2 s hi2 ⟨c, f, rfl⟩
      walk_at "sm"
      refine Run.bind (came cr call j hj) ?_
      rintro _ rfl
      walk_at "sm"
      refine Run.bind (isInt (P := fun p => p = (true, (some (j : Int), ()))) (j : Int) rfl) ?_
      rintro _ rfl
      walk_at "sm"
      rw [if_neg (by simp), if_neg (by simp)]
      simp only [decide_true, Bool.not_true]
      walk_at "sm"
      exact ⟨trivial, _, _, rfl⟩
    rintro ⟨x, s⟩ ⟨hx, c, f, hs⟩
    cases hx
    cases hs
    walk_at "sm"
    refine Run.bind (pick (P := fun p => ∃ v m, p = (v, (some [m], some many, ())) ∧ 0 ≤ v ∧ v < many) _ many (by omega) (by omega) ⟨_, _, rfl, Int.emod_nonneg _ (by omega), Int.emod_lt_of_pos _ (by omega)⟩) ?_
    rintro _ ⟨place, m', rfl, hp0, hp1⟩
    walk_at "sm"
    obtain ⟨pl, rfl⟩ : ∃ q : Nat, place = (q : Int) := ⟨place.toNat, by omega⟩
    have hpl : pl < cr.length := by omega
    refine Run.bind (P := fun y => ∃ t : Bool, y = (t, ((some ns, some [m'], some v, some call, some many, some (pl : Int), some cr, some cr, some (i : Int), some (j : Int), c, some (j : Int), e, f, ()) : Sm.Env law_T)) ∧ (t = false → (cr.filter (· = call)).length ≠ 1)) (Run.ite (fun h => ?_) (fun h => ?_)) ?_
    · exact .some ⟨true, rfl, fun h => by cases h⟩
    · unfold cnt
      refine ⟨_, rfl, _, rfl, fun h => ?_⟩
      have h' := of_decide_eq_false h
      omega
    rintro _ ⟨t, rfl, ht⟩
    walk_at "sm"
    refine Run.bind (P := fun y => ∃ (q : Nat) (z : Int × Int), y = (Ctl.nx, ((some ns, some [m'], some v, some call, some many, some (pl : Int), some (cr.set q z), some cr, some (i : Int), some (j : Int), c, some (q : Int), e, f, ()) : Sm.Env law_T)) ∧ q < cr.length ∧ call ∈ cr.set q z) (Run.ite (fun h => ?_) (fun h => ?_)) ?_
    · rw [setAt_nat hpl]
      refine .some ⟨pl, call, rfl, hpl, ?_⟩
      rw [List.set_eq_take_append_cons_drop, if_pos hpl]
      exact List.mem_append_right _ List.mem_cons_self
    · have hs := fun z => stays (p := z) hj (ht (by simpa using h))
      rw [setAt_nat hjl]
      walk_at "sm"
      refine Run.ite (fun h => ?_) (fun h => ?_)
      · rw [setAt_nat (by rw [List.length_set]; exact hjl)]
        rw [List.set_set]
        exact .some ⟨j, (8, 39), rfl, hjl, hs _⟩
      · exact .some ⟨j, (9, 39), rfl, hjl, hs _⟩
    rintro _ ⟨q, z, rfl, hq, hz⟩
    walk_at "sm"
    rw [idx_at (by rw [List.length_set]; exact hq)]
    walk_at "sm"
    rw [setAt_nat hq]
    walk_at "sm"
    rw [List.getElem_set_self]
    exact ⟨trivial, _, _, _, _, _, _, _, _, _, rfl, hz, by rw [List.length_set]; exact hcl⟩
  · rintro ⟨x, s⟩ ⟨hx, _⟩
    cases hx
    walk_at "sm"
theorem law_true (ns : List Int) (hn : ns.length ≤ 63) : ∃ s', Sm.bodyF (ps := law_ps) (ls := law_ls) law_m ((some ns, ()) : Option (List Int) × Unit) = some (true, s') := by
  obtain ⟨⟨b, s'⟩, h1, h2⟩ := law_run ns hn
  have h2' : b = true := h2
  subst h2'
  exact ⟨s', h1⟩
end Lw
open PySem PySem.W PyProof.Rows
set_option maxRecDepth 100000 in
set_option maxHeartbeats 0 in
theorem PySem.Challenge.cw_bothcome_k20_who_came_holds : PySem.Challenge.rw_bothcome_k20_who_came.Holds := by
  w_on; o_law; k_head; (case hw => w_witness2)
  k_fill
  refine Sm.law_walk (l := PySem.Challenge.rw_bothcome_k20_who_came) (k := 3) (f := Sm.bodyF (ps := Lw.law_ps) (ls := Lw.law_ls) Lw.law_m) rfl rfl ⟨rfl, by decide, by decide⟩ (fun w h Y => PySem.W.kIn_of Y) ?F Lw.law_true
  case F =>
    intro w mg fa h KX G hmg
    refine' Lw.all_mk KX G hmg ?a0 ?l0 ?c0 ?k0 ?a1 ?l1 ?c1 ?k1 ?a2 ?l2 ?c2 ?k2 ?a3 ?l3 ?c3 ?k3 ?a4 ?l4 ?c4 ?k4 ?a5 ?l5 ?c5 ?k5 ?a6 ?l6 ?c6 ?k6 ?a7 ?l7 ?c7 ?k7 ?z0 ?z1 ?z2 ?z3 ?z4 ?z5
    (case a0 => k_is); (case l0 => k_is); (case c0 => k_is); (case k0 => k_is)
    (case a1 => k_is); (case l1 => k_is); (case c1 => k_is); (case k1 => k_is)
    (case a2 => k_is); (case l2 => k_is); (case c2 => k_is); (case k2 => k_is)
    (case a3 => k_is); (case l3 => k_is); (case c3 => k_is); (case k3 => k_is)
    (case a4 => k_is); (case l4 => k_is); (case c4 => k_is); (case k4 => k_is)
    (case a5 => k_is); (case l5 => k_is); (case c5 => k_is); (case k5 => k_is)
    (case a6 => k_is); (case l6 => k_is); (case c6 => k_is); (case k6 => k_is)
    (case a7 => k_is); (case l7 => k_is); (case c7 => k_is); (case k7 => k_is)
    (case z0 => k_is)
    (case z1 => k_is)
    (case z2 => k_is)
    (case z3 => k_is)
    (case z4 => k_is)
    (case z5 => k_is)
