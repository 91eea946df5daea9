import PyProof.Rows.All
import Wide.All
import OpenK.AllK
import Wide.FinOn
import HandS.ForMost
import HandS.ForExc
import HandS.Deep
import HandS.IsInst
import HandS.Style
import HandS.Property
import HandS.RevRange
import HandS.Conv
import HandS.Flt
import PySem.Challenge.RW_bothcome_k28_whole_long_runs
set_option Elab.async false
set_option linter.all false
set_option maxRecDepth 100000
set_option maxHeartbeats 4000000
/-! S1: weakest readings, typed environments, ownership of cells. -/
namespace Sm
open PySem PySem.Spec L2

/-! ### weakest readings -/
section
variable {X : Cx}
def wE (X : Cx) (e : Expr) : TE := fun σ H Q => ∀ pins s, Inv X pins σ H s → wpAny (model X.prog X.w) X.A (eval e X.env) (EP X pins σ Q) X.xe s
def wT (X : Cx) (e : Expr) : TT := fun σ H Q => ∀ pins s, Inv X pins σ H s → wpAny (model X.prog X.w) X.A (isTrue e X.env (eval e X.env)) (TP X pins σ Q) X.xe s
def wW (X : Cx) (e : Expr) : TT := fun σ H Q => ∀ whole pins s, Inv X pins σ H s → wpAny (model X.prog X.w) X.A (isTrue e X.env whole) (TP X pins σ Q) X.xe s
def wA (X : Cx) (es : List Expr) : TA := fun σ H Q => ∀ pos pins s, Inv X pins σ H s → wpAny (model X.prog X.w) X.A (spliced (backTo pos (starEach es X.env))) (AP X pins σ Q) X.xe s
def wS (X : Cx) (st : Stmt) : TS := fun D σ H => ∀ pins s, Inv X pins σ H s → wpAny (model X.prog X.w) X.A (exec st X.env) (SP X pins D) X.xe s
def wSs (X : Cx) (st : List Stmt) : TS := fun D σ H => ∀ pins s, Inv X pins σ H s → wpAny (model X.prog X.w) X.A (execs st X.env) (SP X pins D) X.xe s
theorem pe_w {e : Expr} : PE X e (wE X e) := ⟨fun pins s _ _ _ I h => h pins s I⟩
theorem pt_w {e : Expr} : PT X e (wT X e) := ⟨fun pins s _ _ _ I h => h pins s I⟩
theorem pw_w {e : Expr} : PW X e (wW X e) := ⟨fun whole pins s _ _ _ I h => h whole pins s I⟩
theorem pa_w {es : List Expr} : PA X es (wA X es) := ⟨fun pos pins s _ _ _ I h => h pos pins s I⟩
theorem ps_w {st : Stmt} : PS X st (wS X st) := ⟨fun pins s _ _ _ I h => h pins s I⟩
theorem pss_w {st : List Stmt} : PSs X st (wSs X st) := ⟨fun pins s _ _ _ I h => h pins s I⟩
theorem wE_of {e : Expr} {t : TE} {σ : St} {H : Hp} {Q : VK} (h : PE X e t) (q : t σ H Q) : wE X e σ H Q := fun pins s I => h.run pins s σ H Q I q
theorem wT_of {e : Expr} {t : TT} {σ : St} {H : Hp} {Q : Bool → Hp → Prop} (h : PT X e t) (q : t σ H Q) : wT X e σ H Q := fun pins s I => h.run pins s σ H Q I q
theorem wW_of {e : Expr} {t : TT} {σ : St} {H : Hp} {Q : Bool → Hp → Prop} (h : PW X e t) (q : t σ H Q) : wW X e σ H Q := fun whole pins s I => h.run whole pins s σ H Q I q
theorem wT_of_W {e : Expr} {σ : St} {H : Hp} {Q : Bool → Hp → Prop} (h : wW X e σ H Q) : wT X e σ H Q := fun pins s I => h _ pins s I
theorem wA_of {es : List Expr} {t : TA} {σ : St} {H : Hp} {Q : List V → Hp → Prop} (h : PA X es t) (q : t σ H Q) : wA X es σ H Q := fun pos pins s I => h.run pos pins s σ H Q I q
theorem wS_of {st : Stmt} {t : TS} {σ : St} {H : Hp} {D : Ends} (h : PS X st t) (q : t D σ H) : wS X st D σ H := fun pins s I => h.run pins s σ H D I q
theorem wSs_of {st : List Stmt} {t : TS} {σ : St} {H : Hp} {D : Ends} (h : PSs X st t) (q : t D σ H) : wSs X st D σ H := fun pins s I => h.run pins s σ H D I q
theorem wE_mono {e : Expr} {σ : St} {H : Hp} {Q Q' : VK} (h : wE X e σ H Q) (k : ∀ v H', Q v H' → Q' v H') : wE X e σ H Q' :=
  fun pins s I => thn (h pins s I) fun _ _ ⟨v, H', I', r, q⟩ => ⟨v, H', I', r, k v H' q⟩
end

/-! ### heaps -/
def Ex (H H' : Hp) : Prop := ∀ a o, H a = some o → H' a = some o
theorem Ex.refl (H : Hp) : Ex H H := fun _ _ h => h
theorem Ex.trans {H H1 H2 : Hp} (a : Ex H H1) (b : Ex H1 H2) : Ex H H2 := fun x o h => b x o (a x o h)
theorem Ex.new {H : Hp} {p : Addr} {o : HO} (h : H p = none) : Ex H (upd H p o) := fun a u e => by
  rw [upd_ne (ne_of_none e h)]
  exact e
theorem Ex.rd {H H' : Hp} {a : Addr} {u : HO} (e : Ex H H') (h : Rd H a u) : Rd H' a u := by
  rcases h with h | ⟨o, h⟩
  · exact Or.inl (e a _ h)
  · exact Or.inr ⟨o, e a _ h⟩
theorem Ex.l {K : PySem.W.Frag} {H H' : Hp} {a : Addr} {xs : List V} (e : Ex H H') (h : SqL K H a xs) : SqL K H' a xs := by
  rcases h with h | h
  · exact Or.inl (e.rd h)
  · exact Or.inr h
theorem Ex.t {K : PySem.W.Frag} {H H' : Hp} {a : Addr} {xs : List V} (e : Ex H H') (h : SqT K H a xs) : SqT K H' a xs := by
  rcases h with h | h
  · exact Or.inl (e.rd h)
  · exact Or.inr h
/-- objects that are never changed -/
def im : HO → Bool
  | .tup _ => true
  | .frz _ _ => true
  | _ => false
def ExI (G G' : Hp) : Prop := ∀ a o, G a = some o → im o = true → G' a = some o
theorem Ex.i {H H' : Hp} (e : Ex H H') : ExI H H' := fun a o h _ => e a o h

/-! ### data -/
mutual
/-- as Dp, the lists tracked -/
inductive Dq (K : PySem.W.Frag) (H : Hp) : V → PyData → Prop
  | non : Dq K H .non .none
  | bl (b : Bool) : Dq K H (.bl b) (.bool b)
  | int (i : Int) : Dq K H (.int i) (.int i)
  | str (x : Str) : Dq K H (.str x) (.str x)
  | lst {a : Addr} {xs : List V} {ds : List PyData} : H a = some (.lst xs) → DqAll K H xs ds → Dq K H (.ref a) (.list ds)
  | tup {a : Addr} {xs : List V} {ds : List PyData} : SqT K H a xs → DqAll K H xs ds → Dq K H (.ref a) (.tuple ds)
inductive DqAll (K : PySem.W.Frag) (H : Hp) : List V → List PyData → Prop
  | nil : DqAll K H [] []
  | cons {v : V} {vs : List V} {d : PyData} {ds : List PyData} : Dq K H v d → DqAll K H vs ds → DqAll K H (v :: vs) (d :: ds)
end
mutual
theorem dq_dp {K : PySem.W.Frag} {H : Hp} : ∀ {v : V} {d : PyData}, Dq K H v d → Dp K H v d
  | _, _, .non => .non
  | _, _, .bl b => .bl b
  | _, _, .int i => .int i
  | _, _, .str x => .str x
  | _, _, .lst h k => .lst (SqL.of h) (dqAll_dp k)
  | _, _, .tup h k => .tup h (dqAll_dp k)
theorem dqAll_dp {K : PySem.W.Frag} {H : Hp} : ∀ {vs : List V} {ds : List PyData}, DqAll K H vs ds → DpAll K H vs ds
  | _, _, .nil => .nil
  | _, _, .cons a b => .cons (dq_dp a) (dqAll_dp b)
end
mutual
theorem dq_mono {K : PySem.W.Frag} {H H' : Hp} (e : Ex H H') : ∀ {v : V} {d : PyData}, Dq K H v d → Dq K H' v d
  | _, _, .non => .non
  | _, _, .bl b => .bl b
  | _, _, .int i => .int i
  | _, _, .str x => .str x
  | _, _, .lst h k => .lst (e _ _ h) (dqAll_mono e k)
  | _, _, .tup h k => .tup (e.t h) (dqAll_mono e k)
theorem dqAll_mono {K : PySem.W.Frag} {H H' : Hp} (e : Ex H H') : ∀ {vs : List V} {ds : List PyData}, DqAll K H vs ds → DqAll K H' vs ds
  | _, _, .nil => .nil
  | _, _, .cons a b => .cons (dq_mono e a) (dqAll_mono e b)
end
/-! no list within -/
mutual
def pureD : PyData → Bool
  | .list _ => false
  | .dict _ => false
  | .tuple ds => pureDs ds
  | _ => true
def pureDs : List PyData → Bool
  | [] => true
  | d :: ds => pureD d && pureDs ds
end
theorem ExI.t {K : PySem.W.Frag} {H H' : Hp} {a : Addr} {xs : List V} (e : ExI H H') (h : SqT K H a xs) : SqT K H' a xs := by
  rcases h with (h | ⟨o, h⟩) | h
  · exact Or.inl (Or.inl (e a _ h rfl))
  · exact Or.inl (Or.inr ⟨o, e a _ h rfl⟩)
  · exact Or.inr h
mutual
theorem dq_pure {K : PySem.W.Frag} {H H' : Hp} (e : ExI H H') : ∀ {v : V} {d : PyData}, pureD d = true → Dq K H v d → Dq K H' v d
  | _, _, _, .non => .non
  | _, _, _, .bl b => .bl b
  | _, _, _, .int i => .int i
  | _, _, _, .str x => .str x
  | _, _, p, .lst h k => by simp [pureD] at p
  | _, _, p, .tup h k => .tup (e.t h) (dqAll_pure e (by simpa [pureD] using p) k)
theorem dqAll_pure {K : PySem.W.Frag} {H H' : Hp} (e : ExI H H') : ∀ {vs : List V} {ds : List PyData}, pureDs ds = true → DqAll K H vs ds → DqAll K H' vs ds
  | _, _, _, .nil => .nil
  | _, _, p, .cons a b => .cons (dq_pure e (by simp [pureDs] at p; exact p.1) a) (dqAll_pure e (by simp [pureDs] at p; exact p.2) b)
end

/-- typed data -/
class Enc (α : Type) where
  enc : α → PyData
open Enc (enc)
/-- what may be laid out and compared -/
class Lay (α : Type) [Enc α] where
  dep : Nat
  lay : ∀ x : α, (enc x).canLay0 = true
  dle : ∀ x : α, (enc x).depth ≤ dep
class PureE (α : Type) [Enc α] : Prop where
  pu : ∀ x : α, pureD (enc x) = true
class EqE (α : Type) [Enc α] [DecidableEq α] : Prop where
  eqv : ∀ x y : α, PyData.eqv (enc x) (enc y) = decide (x = y)
theorem shaped_enc {α : Type} [Enc α] [Lay α] (h : Lay.dep α ≤ 64) (x : α) : SeqAt.shaped (enc x) = true := by
  show ((enc x).canLay0 && decide ((enc x).depth ≤ 64)) = true
  rw [Bool.and_eq_true]
  exact ⟨Lay.lay x, decide_eq_true (Nat.le_trans (Lay.dle x) h)⟩
instance : Enc Int := ⟨.int⟩
instance : Enc Bool := ⟨.bool⟩
instance : Enc Str := ⟨.str⟩
instance : Enc Unit := ⟨fun _ => .none⟩
instance : Enc PyData := ⟨id⟩
instance {α : Type} [Enc α] : Enc (List α) := ⟨fun xs => .list (xs.map enc)⟩
instance {α β : Type} [Enc α] [Enc β] : Enc (α × β) := ⟨fun x => .tuple [enc x.1, enc x.2]⟩
/-- a tuple of three, four, five (nested pairs would be read as pairs) -/
structure T3 (α β γ : Type) where
  (a : α) (b : β) (c : γ)
  deriving DecidableEq
structure T4 (α β γ δ : Type) where
  (a : α) (b : β) (c : γ) (d : δ)
  deriving DecidableEq
instance {α β γ : Type} [Enc α] [Enc β] [Enc γ] : Enc (T3 α β γ) := ⟨fun x => .tuple [enc x.a, enc x.b, enc x.c]⟩
instance {α β γ δ : Type} [Enc α] [Enc β] [Enc γ] [Enc δ] : Enc (T4 α β γ δ) := ⟨fun x => .tuple [enc x.a, enc x.b, enc x.c, enc x.d]⟩
instance : Lay Int := ⟨0, fun x => by show PyData.canLay0 (.int x) = true; simp [PyData.canLay0], fun x => by show PyData.depth (.int x) ≤ 0; simp [PyData.depth]⟩
instance : Lay Bool := ⟨0, fun x => by show PyData.canLay0 (.bool x) = true; simp [PyData.canLay0], fun x => by show PyData.depth (.bool x) ≤ 0; simp [PyData.depth]⟩
instance : Lay Unit := ⟨0, fun x => by show PyData.canLay0 .none = true; simp [PyData.canLay0], fun x => by show PyData.depth .none ≤ 0; simp [PyData.depth]⟩
theorem lay_all {α : Type} [Enc α] [Lay α] : ∀ xs : List α, PyData.canLayAll0 (xs.map enc) = true
  | [] => by simp [PyData.canLayAll0]
  | x :: xs => by simp [PyData.canLayAll0, Lay.lay x, lay_all xs]
theorem dep_all {α : Type} [Enc α] [Lay α] : ∀ xs : List α, PyData.depthAll (xs.map enc) ≤ Lay.dep α
  | [] => by simp [PyData.depthAll]
  | x :: xs => by
    have := dep_all xs
    have := Lay.dle x
    simp only [List.map_cons, PyData.depthAll]; omega
instance {α : Type} [Enc α] [Lay α] : Lay (List α) := ⟨Lay.dep α + 1, fun xs => by
  show PyData.canLay0 (.list (xs.map enc)) = true
  simp only [PyData.canLay0]; exact lay_all xs, fun xs => by
  have := dep_all xs
  show PyData.depth (.list (xs.map enc)) ≤ _
  simp only [PyData.depth]; omega⟩
instance {α β : Type} [Enc α] [Enc β] [Lay α] [Lay β] : Lay (α × β) := ⟨Lay.dep α + Lay.dep β + 1, fun x => by
  show PyData.canLay0 (.tuple [enc x.1, enc x.2]) = true
  simp [PyData.canLay0, PyData.canLayAll0, Lay.lay], fun x => by
  have := Lay.dle x.1
  have := Lay.dle x.2
  show PyData.depth (.tuple [enc x.1, enc x.2]) ≤ _
  simp only [PyData.depth, PyData.depthAll]; omega⟩
instance {α β γ : Type} [Enc α] [Enc β] [Enc γ] [Lay α] [Lay β] [Lay γ] : Lay (T3 α β γ) := ⟨Lay.dep α + Lay.dep β + Lay.dep γ + 1, fun x => by
  show PyData.canLay0 (.tuple [enc x.a, enc x.b, enc x.c]) = true
  simp [PyData.canLay0, PyData.canLayAll0, Lay.lay], fun x => by
  have := Lay.dle x.a
  have := Lay.dle x.b
  have := Lay.dle x.c
  show PyData.depth (.tuple [enc x.a, enc x.b, enc x.c]) ≤ _
  simp only [PyData.depth, PyData.depthAll]; omega⟩
instance {α β γ δ : Type} [Enc α] [Enc β] [Enc γ] [Enc δ] [Lay α] [Lay β] [Lay γ] [Lay δ] : Lay (T4 α β γ δ) := ⟨Lay.dep α + Lay.dep β + Lay.dep γ + Lay.dep δ + 1, fun x => by
  show PyData.canLay0 (.tuple [enc x.a, enc x.b, enc x.c, enc x.d]) = true
  simp [PyData.canLay0, PyData.canLayAll0, Lay.lay], fun x => by
  have := Lay.dle x.a
  have := Lay.dle x.b
  have := Lay.dle x.c
  have := Lay.dle x.d
  show PyData.depth (.tuple [enc x.a, enc x.b, enc x.c, enc x.d]) ≤ _
  simp only [PyData.depth, PyData.depthAll]; omega⟩
instance : PureE Int := ⟨fun _ => rfl⟩
instance : PureE Bool := ⟨fun _ => rfl⟩
instance : PureE Str := ⟨fun _ => rfl⟩
instance : PureE Unit := ⟨fun _ => rfl⟩
instance {α β : Type} [Enc α] [Enc β] [PureE α] [PureE β] : PureE (α × β) := ⟨fun x => by
  show pureD (.tuple [enc x.1, enc x.2]) = true
  simp [pureD, pureDs, PureE.pu]⟩
instance {α β γ : Type} [Enc α] [Enc β] [Enc γ] [PureE α] [PureE β] [PureE γ] : PureE (T3 α β γ) := ⟨fun x => by
  show pureD (.tuple [enc x.a, enc x.b, enc x.c]) = true
  simp [pureD, pureDs, PureE.pu]⟩
instance {α β γ δ : Type} [Enc α] [Enc β] [Enc γ] [Enc δ] [PureE α] [PureE β] [PureE γ] [PureE δ] : PureE (T4 α β γ δ) := ⟨fun x => by
  show pureD (.tuple [enc x.a, enc x.b, enc x.c, enc x.d]) = true
  simp [pureD, pureDs, PureE.pu]⟩
instance : EqE Int := ⟨fun x y => by
  show PyData.eqv (.int x) (.int y) = _
  simp [PyData.eqv, Bool.beq_eq_decide_eq]⟩
instance : EqE Bool := ⟨fun x y => by
  show PyData.eqv (.bool x) (.bool y) = _
  simp [PyData.eqv, Bool.beq_eq_decide_eq]⟩
instance : EqE Unit := ⟨fun x y => by
  show PyData.eqv .none .none = _
  simp [PyData.eqv]⟩
theorem eqv_all {α : Type} [Enc α] [DecidableEq α] [EqE α] : ∀ xs ys : List α, PyData.eqvAll (xs.map enc) (ys.map enc) = decide (xs = ys)
  | [], [] => by simp [PyData.eqvAll]
  | [], _ :: _ => by simp [PyData.eqvAll]
  | _ :: _, [] => by simp [PyData.eqvAll]
  | x :: xs, y :: ys => by simp [PyData.eqvAll, EqE.eqv x y, eqv_all xs ys]
instance {α : Type} [Enc α] [DecidableEq α] [EqE α] : EqE (List α) := ⟨fun xs ys => by
  show PyData.eqv (.list (xs.map enc)) (.list (ys.map enc)) = _
  simp only [PyData.eqv]; exact eqv_all xs ys⟩
instance {α β : Type} [Enc α] [Enc β] [DecidableEq α] [DecidableEq β] [EqE α] [EqE β] : EqE (α × β) := ⟨fun x y => by
  obtain ⟨a, b⟩ := x
  obtain ⟨c, d⟩ := y
  show PyData.eqv (.tuple [enc a, enc b]) (.tuple [enc c, enc d]) = _
  simp [PyData.eqv, PyData.eqvAll, EqE.eqv]⟩
instance {α β γ : Type} [Enc α] [Enc β] [Enc γ] [DecidableEq α] [DecidableEq β] [DecidableEq γ] [EqE α] [EqE β] [EqE γ] : EqE (T3 α β γ) := ⟨fun x y => by
  obtain ⟨a, b, e⟩ := x
  obtain ⟨c, d, f⟩ := y
  show PyData.eqv (.tuple [enc a, enc b, enc e]) (.tuple [enc c, enc d, enc f]) = _
  simp [PyData.eqv, PyData.eqvAll, EqE.eqv]⟩
instance {α β γ δ : Type} [Enc α] [Enc β] [Enc γ] [Enc δ] [DecidableEq α] [DecidableEq β] [DecidableEq γ] [DecidableEq δ] [EqE α] [EqE β] [EqE γ] [EqE δ] : EqE (T4 α β γ δ) := ⟨fun x y => by
  obtain ⟨a, b, e, g⟩ := x
  obtain ⟨c, d, f, h⟩ := y
  show PyData.eqv (.tuple [enc a, enc b, enc e, enc g]) (.tuple [enc c, enc d, enc f, enc h]) = _
  simp [PyData.eqv, PyData.eqvAll, EqE.eqv]⟩
end Sm
/-! S2: what a slot holds, environments, the state. -/
namespace Sm
open PySem PySem.Spec L2
open Enc (enc)

abbrev Fr := PySem.W.Frag
/-- how a typed value lies: G is what never changes, H the heap, A the cells that belong to it -/
structure RT (K : Fr) (α : Type) where
  rel : Hp → Hp → V → α → (Addr → Prop) → Prop
  shr : Hp → V → α → Prop
  fix : Bool
  grow : ∀ {G G' H H' : Hp} {v : V} {x : α} {A : Addr → Prop}, rel G H v x A → Ex G G' → (∀ a, A a → H' a = H a) → rel G' H' v x A
  view : ∀ {G G' H : Hp} {v : V} {x : α} {A : Addr → Prop}, rel G H v x A → Ex G G' → (∀ a o, A a → H a = some o → G' a = some o) → shr G' v x
  smono : ∀ {G G' : Hp} {v : V} {x : α}, shr G v x → Ex G G' → shr G' v x
  wid : ∀ {G H : Hp} {v : V} {x : α} {A B : Addr → Prop}, rel G H v x A → (∀ a, A a → B a) → rel G H v x B
  ok : (fix = true ∧ ∀ (G H : Hp) (v : V) (x : α) (A : Addr → Prop), rel G H v x A ↔ shr G v x) ∨ (fix = false ∧ ∀ (G G' H : Hp) (v : V) (x : α) (A : Addr → Prop), rel G H v x A → ExI G G' → rel G' H v x A)
section
variable {K : Fr} {α β : Type}
def Lin (R : RT K α) : Prop := ∀ (G G' H : Hp) (v : V) (x : α) (A : Addr → Prop), R.rel G H v x A → ExI G G' → R.rel G' H v x A
def Cpy (R : RT K α) : Prop := ∀ (G H : Hp) (v : V) (x : α) (A : Addr → Prop), R.rel G H v x A ↔ R.shr G v x
theorem cpy_of {R : RT K α} (h : R.fix = true) : Cpy R := by
  rcases R.ok with ⟨_, k⟩ | ⟨f, _⟩
  · exact k
  · rw [h] at f; cases f
theorem lin_of {R : RT K α} (h : R.fix = false) : Lin R := by
  rcases R.ok with ⟨f, _⟩ | ⟨_, k⟩
  · rw [h] at f; cases f
  · exact k
/-- data that is shared -/
def RT.dat (K : Fr) (α : Type) [Enc α] : RT K α where
  rel := fun G _ v x _ => Dq K G v (enc x)
  shr := fun G v x => Dq K G v (enc x)
  fix := true
  grow := fun h e _ => dq_mono e h
  view := fun h e _ => dq_mono e h
  smono := fun h e => dq_mono e h
  wid := fun h _ => h
  ok := .inl ⟨rfl, fun _ _ _ _ _ => Iff.rfl⟩
theorem lin_dat [Enc α] [PureE α] : Lin (RT.dat K α) := fun _ _ _ _ x _ h e => dq_pure e (PureE.pu x) h
/-- the shared view of something -/
def RT.sh (R : RT K α) : RT K α where
  rel := fun G _ v x _ => R.shr G v x
  shr := R.shr
  fix := true
  grow := fun h e _ => R.smono h e
  view := fun h e _ => R.smono h e
  smono := R.smono
  wid := fun h _ => h
  ok := .inl ⟨rfl, fun _ _ _ _ _ => Iff.rfl⟩
/-- no more known -/
def RT.dead (K : Fr) (α : Type) : RT K α where
  rel := fun _ _ _ _ _ => True
  shr := fun _ _ _ => True
  fix := true
  grow := fun _ _ _ => trivial
  view := fun _ _ _ => trivial
  smono := fun _ _ => trivial
  wid := fun _ _ => trivial
  ok := .inl ⟨rfl, fun _ _ _ _ _ => Iff.rfl⟩
def All2 {α β : Type} (P : α → β → Prop) : List α → List β → Prop
  | [], [] => True
  | a :: as, b :: bs => P a b ∧ All2 P as bs
  | _, _ => False
theorem All2.imp {α β : Type} {P Q : α → β → Prop} (f : ∀ a b, P a b → Q a b) : ∀ {as : List α} {bs : List β}, All2 P as bs → All2 Q as bs
  | [], [], _ => trivial
  | _ :: _, _ :: _, h => ⟨f _ _ h.1, All2.imp f h.2⟩
theorem All2.len {α β : Type} {P : α → β → Prop} : ∀ {as : List α} {bs : List β}, All2 P as bs → as.length = bs.length
  | [], [], _ => rfl
  | _ :: _, _ :: _, h => by simp [All2.len h.2]
theorem All2.app {α β : Type} {P : α → β → Prop} : ∀ {as cs : List α} {bs ds : List β}, All2 P as bs → All2 P cs ds → All2 P (as ++ cs) (bs ++ ds)
  | [], _, [], _, _, h => h
  | _ :: _, _, _ :: _, _, h, k => ⟨h.1, All2.app h.2 k⟩
theorem All2.get {α β : Type} {P : α → β → Prop} : ∀ {as : List α} {bs : List β} {i : Nat} {b : β}, All2 P as bs → bs[i]? = some b → ∃ a, as[i]? = some a ∧ P a b
  | [], [], _, _, _, e => by simp at e
  | a :: _, b :: _, 0, c, h, e => by
    have e' : b = c := by simpa using e
    subst e'
    exact ⟨a, rfl, h.1⟩
  | _ :: _, _ :: _, i + 1, c, h, e => by
    obtain ⟨a, h1, h2⟩ := All2.get (i := i) h.2 (by simpa using e)
    exact ⟨a, by simpa using h1, h2⟩
theorem All2.set {α β : Type} {P : α → β → Prop} {a : α} {b : β} (p : P a b) : ∀ {as : List α} {bs : List β} (i : Nat), All2 P as bs → All2 P (as.set i a) (bs.set i b)
  | [], [], _, h => h
  | _ :: _, _ :: _, 0, h => ⟨p, h.2⟩
  | _ :: _, _ :: _, i + 1, h => ⟨h.1, All2.set p i h.2⟩
theorem All2.take {α β : Type} {P : α → β → Prop} : ∀ {as : List α} {bs : List β} (i : Nat), All2 P as bs → All2 P (as.take i) (bs.take i)
  | [], [], i, _ => by simp [All2]
  | _ :: _, _ :: _, 0, _ => by simp [All2]
  | _ :: _, _ :: _, i + 1, h => ⟨h.1, All2.take i h.2⟩
theorem All2.drop {α β : Type} {P : α → β → Prop} : ∀ {as : List α} {bs : List β} (i : Nat), All2 P as bs → All2 P (as.drop i) (bs.drop i)
  | [], [], i, _ => by simp [All2]
  | _ :: _, _ :: _, 0, h => h
  | _ :: _, _ :: _, i + 1, h => All2.drop i h.2
theorem All2.rev {α β : Type} {P : α → β → Prop} : ∀ {as : List α} {bs : List β}, All2 P as bs → All2 P as.reverse bs.reverse
  | [], [], _ => by simp [All2]
  | a :: as, b :: bs, h => by
    rw [List.reverse_cons, List.reverse_cons]
    exact All2.app (All2.rev h.2) ⟨h.1, trivial⟩
theorem dqAll_all2 [Enc α] {H : Hp} : ∀ {vs : List V} {xs : List α}, DqAll K H vs (xs.map enc) ↔ All2 (fun v x => Dq K H v (enc x)) vs xs
  | [], [] => ⟨fun _ => trivial, fun _ => .nil⟩
  | [], _ :: _ => ⟨fun h => (by cases h), fun h => (show False from h).elim⟩
  | _ :: _, [] => ⟨fun h => (by cases h), fun h => (show False from h).elim⟩
  | v :: vs, x :: xs => ⟨fun h => by
      cases h with
      | cons a b => exact ⟨a, dqAll_all2.mp b⟩, fun h => .cons h.1 (dqAll_all2.mpr h.2)⟩
/-- a list of one's own, of pure data -/
def RT.own (K : Fr) (α : Type) [Enc α] [PureE α] : RT K (List α) where
  rel := fun G H v xs A => ∃ p vs, v = .ref p ∧ A p ∧ H p = some (.lst vs) ∧ All2 (fun v x => Dq K G v (enc x)) vs xs
  shr := fun G v x => Dq K G v (enc x)
  fix := false
  grow := fun ⟨p, vs, e, a, h, k⟩ g f => ⟨p, vs, e, a, (f p a).trans h, k.imp fun _ _ q => dq_mono g q⟩
  view := fun ⟨p, vs, e, a, h, k⟩ g f => by
    subst e
    exact Dq.lst (f p _ a h) (dqAll_all2.mpr (k.imp fun _ _ q => dq_mono g q))
  smono := fun h e => dq_mono e h
  wid := fun ⟨p, vs, e, a, h, k⟩ f => ⟨p, vs, e, f p a, h, k⟩
  ok := .inr ⟨rfl, fun _ _ _ _ _ _ ⟨p, vs, e, a, h, k⟩ f => ⟨p, vs, e, a, h, k.imp fun _ x q => dq_pure f (PureE.pu x) q⟩⟩
end

/-! ### environments -/
def Env : List Type → Type
  | [] => Unit
  | α :: r => Option α × Env r
inductive Var : List Type → Type → Type 1
  | vz {α : Type} {r : List Type} : Var (α :: r) α
  | vs {α β : Type} {r : List Type} : Var r α → Var (β :: r) α
def RTs (K : Fr) : List Type → Type
  | [] => Unit
  | α :: r => RT K α × RTs K r
namespace Var
def idx : {αs : List Type} → {α : Type} → Var αs α → Nat
  | _, _, (.vz) => 0
  | _, _, (.vs x) => x.idx + 1
def get : {αs : List Type} → {α : Type} → Var αs α → Env αs → Option α
  | _, _, (.vz), s => s.1
  | _, _, (.vs x), s => x.get s.2
def set : {αs : List Type} → {α : Type} → Var αs α → Option α → Env αs → Env αs
  | _, _, (.vz), a, s => (a, s.2)
  | _, _, (.vs x), a, s => (s.1, x.set a s.2)
def rt {K : Fr} : {αs : List Type} → {α : Type} → Var αs α → RTs K αs → RT K α
  | _, _, (.vz), s => s.1
  | _, _, (.vs x), s => x.rt s.2
def setR {K : Fr} : {αs : List Type} → {α : Type} → Var αs α → RT K α → RTs K αs → RTs K αs
  | _, _, (.vz), a, s => (a, s.2)
  | _, _, (.vs x), a, s => (s.1, x.setR a s.2)
theorem lt : ∀ {αs : List Type} {α : Type} (x : Var αs α), x.idx < αs.length
  | _, _, (.vz) => Nat.succ_pos _
  | _, _, (.vs x) => Nat.succ_lt_succ x.lt
/-- either the same or another place -/
theorem split : ∀ {αs : List Type} {α : Type} (x : Var αs α) {P : ∀ β, Var αs β → Prop}, P α x → (∀ β (y : Var αs β), y.idx ≠ x.idx → P β y) → ∀ β (y : Var αs β), P β y
  | _, _, (.vz), P, h1, h2, β, y => by
    cases y with
    | vz => exact h1
    | vs y => exact h2 _ _ (by simp [idx])
  | _, _, (.vs x), P, h1, h2, β, y => by
    cases y with
    | vz => exact h2 _ _ (by simp [idx])
    | vs y => exact split x (P := fun β y => P β (.vs y)) h1 (fun β y h => h2 β (.vs y) (by simpa [idx] using h)) β y
theorem get_set : ∀ {αs : List Type} {α : Type} (x : Var αs α) (a : Option α) (s : Env αs), x.get (x.set a s) = a
  | _, _, (.vz), _, _ => rfl
  | _, _, (.vs x), a, s => x.get_set a s.2
theorem rt_set {K : Fr} : ∀ {αs : List Type} {α : Type} (x : Var αs α) (a : RT K α) (s : RTs K αs), x.rt (x.setR a s) = a
  | _, _, (.vz), _, _ => rfl
  | _, _, (.vs x), a, s => x.rt_set a s.2
theorem get_ne : ∀ {αs : List Type} {α β : Type} (x : Var αs α) (y : Var αs β) (a : Option α) (s : Env αs), y.idx ≠ x.idx → y.get (x.set a s) = y.get s
  | _, _, _, (.vz), (.vz), _, _, h => absurd rfl h
  | _, _, _, (.vz), (.vs _), _, _, _ => rfl
  | _, _, _, (.vs _), (.vz), _, _, _ => rfl
  | _, _, _, (.vs x), (.vs y), a, s, h => get_ne x y a s.2 (by simpa [idx] using h)
theorem rt_ne {K : Fr} : ∀ {αs : List Type} {α β : Type} (x : Var αs α) (y : Var αs β) (a : RT K α) (s : RTs K αs), y.idx ≠ x.idx → y.rt (x.setR a s) = y.rt s
  | _, _, _, (.vz), (.vz), _, _, h => absurd rfl h
  | _, _, _, (.vz), (.vs _), _, _, _ => rfl
  | _, _, _, (.vs _), (.vz), _, _, _ => rfl
  | _, _, _, (.vs x), (.vs y), a, s, h => rt_ne x y a s.2 (by simpa [idx] using h)
end Var
abbrev M (αs : List Type) (β : Type) := Env αs → Option (β × Env αs)

/-! ### the state -/
/-- the entry: what never changes, the heap, the cells that may be changed -/
structure C0 where
  G0 : Hp
  H0 : Hp
  M0 : Addr → Prop
/-- the heap has grown: G and H by new cells, nothing changed -/
structure Al (G H G' H' : Hp) : Prop where
  g : Ex G G'
  gh : Ex G' H'
  h : Ex H H'
  new : ∀ a, H a ≠ none → G a = none → G' a = none
theorem Al.refl {G H : Hp} (e : Ex G H) : Al G H G H := ⟨Ex.refl _, e, Ex.refl _, fun _ _ h => h⟩
theorem Al.trans {G H G1 H1 G2 H2 : Hp} (a : Al G H G1 H1) (b : Al G1 H1 G2 H2) : Al G H G2 H2 :=
  ⟨a.g.trans b.g, b.gh, a.h.trans b.h, fun x hx gx => b.new x (by
    cases q : H x with
    | none => exact absurd q hx
    | some o => rw [a.h x o q]; simp) (a.new x hx gx)⟩
/-- a new object that is known -/
theorem Al.kn {G H : Hp} (e : Ex G H) {p : Addr} {o : HO} (hp : H p = none) : Al G H (upd G p o) (upd H p o) := by
  have gp : G p = none := by
    cases q : G p with
    | none => rfl
    | some u => rw [e p u q] at hp; cases hp
  refine ⟨Ex.new gp, fun a u h => ?_, Ex.new hp, fun a ha ga => ?_⟩
  · by_cases z : a = p
    · subst z; rw [upd_same] at h ⊢; exact h
    · rw [upd_ne z] at h ⊢; exact e a u h
  · have : a ≠ p := fun z => by subst z; exact ha hp
    rw [upd_ne this]; exact ga
/-- a new object of one's own -/
theorem Al.my {G H : Hp} (e : Ex G H) {p : Addr} {o : HO} (hp : H p = none) : Al G H G (upd H p o) :=
  ⟨Ex.refl _, e.trans (Ex.new hp), Ex.new hp, fun _ _ h => h⟩
structure Ok {K : Fr} (C : C0) {αs : List Type} (Γ : RTs K αs) (s : Env αs) (σ : L2.St) (G H : Hp) (o : Addr → Option Nat) : Prop where
  g : Ex C.G0 G
  gh : Ex G H
  new : ∀ a, ¬ C.M0 a → C.H0 a ≠ none → C.G0 a = none → G a = none
  fr : ∀ a ob, ¬ C.M0 a → C.H0 a = some ob → H a = some ob
  dom : ∀ a, C.H0 a ≠ none → H a ≠ none
  imm : ∀ a ob, C.H0 a = some ob → im ob = true → H a = some ob
  own : ∀ a, o a ≠ none → G a = none ∧ (∃ ob, H a = some ob ∧ im ob = false) ∧ (C.M0 a ∨ C.H0 a = none)
  len : σ.length = αs.length
  sl : ∀ (α : Type) (x : Var αs α) (a : α), x.get s = some a → ∃ v, σ[x.idx]? = some (some v) ∧ (x.rt Γ).rel G H v a (fun p => o p = some x.idx)
section
variable {K : Fr} {C : C0} {αs : List Type} {Γ : RTs K αs} {s : Env αs} {σ : L2.St} {G H G' H' : Hp} {o : Addr → Option Nat}
theorem Ok.al (k : Ok C Γ s σ G H o) (a : Al G H G' H') : Ok C Γ s σ G' H' o := by
  refine ⟨k.g.trans a.g, a.gh, fun b nm hb gb => a.new b (k.dom b hb) (k.new b nm hb gb), fun b ob nm hb => a.h b ob (k.fr b ob nm hb), fun b hb => ?_, fun b ob hb i => a.h b ob (k.imm b ob hb i), fun b hb => ?_, k.len, fun α x y hx => ?_⟩
  · cases q : H b with
    | none => exact absurd q (k.dom b hb)
    | some u => rw [a.h b u q]; simp
  · obtain ⟨h1, ⟨ob, h2, h3⟩, h4⟩ := k.own b hb
    exact ⟨a.new b (by rw [h2]; simp) h1, ⟨ob, a.h b ob h2, h3⟩, h4⟩
  · obtain ⟨v, e, r⟩ := k.sl α x y hx
    refine ⟨v, e, (x.rt Γ).grow r a.g fun b hb => ?_⟩
    obtain ⟨_, ⟨ob, h2, _⟩, _⟩ := k.own b (by rw [show o b = some x.idx from hb]; simp)
    rw [h2, a.h b ob h2]
open Classical in
noncomputable def setO (B : Addr → Prop) (i : Nat) (o : Addr → Option Nat) : Addr → Option Nat := fun a => if B a then some i else if o a = some i then none else o a
theorem setO_none {B : Addr → Prop} {i : Nat} {o : Addr → Option Nat} {a : Addr} (h1 : ¬ B a) (h2 : o a = none) : setO B i o a = none := by
  unfold setO
  rw [if_neg h1, if_neg (by rw [h2]; simp)]
  exact h2
/-- a slot is stored -/
theorem Ok.set' {α : Type} (k : Ok C Γ s σ G H o) (x : Var αs α) (R : RT K α) {v : V} {y : α} {B : Addr → Prop} (r : R.rel G H v y B)
    (hB : ∀ a, B a → o a = none ∧ G a = none ∧ (∃ ob, H a = some ob ∧ im ob = false) ∧ (C.M0 a ∨ C.H0 a = none)) :
    Ok C (x.setR R Γ) (x.set (some y) s) (σ.set x.idx (some v)) G H (setO B x.idx o) := by
  classical
  refine ⟨k.g, k.gh, k.new, k.fr, k.dom, k.imm, fun a ha => ?_, by rw [List.length_set]; exact k.len, Var.split x ?_ fun β z hz w hw => ?_⟩
  · by_cases hb : B a
    · exact (hB a hb).2
    · simp only [setO, hb, if_false] at ha
      by_cases hi : o a = some x.idx
      · simp [hi] at ha
      · simp only [hi, if_false] at ha
        exact k.own a ha
  · intro w hw
    rw [Var.get_set] at hw
    cases hw
    refine ⟨v, by rw [List.getElem?_set_self (by rw [k.len]; exact x.lt)], ?_⟩
    rw [Var.rt_set]
    exact R.wid r fun a hb => by simp [setO, hb]
  · rw [Var.get_ne x z _ _ hz] at hw
    obtain ⟨u, e, q⟩ := k.sl β z w hw
    refine ⟨u, by rw [List.getElem?_set_ne (Ne.symm hz)]; exact e, ?_⟩
    rw [Var.rt_ne x z _ _ hz]
    refine (z.rt Γ).wid q fun a ha => ?_
    have ha' : o a = some z.idx := ha
    have nb : ¬ B a := fun hb => by rw [(hB a hb).1] at ha'; cases ha'
    have ni : o a ≠ some x.idx := fun e => by rw [ha'] at e; exact hz (Option.some.inj e)
    show setO B x.idx o a = some z.idx
    unfold setO
    rw [if_neg nb, if_neg ni]; exact ha'
theorem Ok.set {α : Type} (k : Ok C Γ s σ G H o) (x : Var αs α) (R : RT K α) {v : V} {y : α} {B : Addr → Prop} (r : R.rel G H v y B)
    (hB : ∀ a, B a → o a = none ∧ G a = none ∧ (∃ ob, H a = some ob ∧ im ob = false) ∧ (C.M0 a ∨ C.H0 a = none)) :
    ∃ o', Ok C (x.setR R Γ) (x.set (some y) s) (σ.set x.idx (some v)) G H o' := ⟨_, k.set' x R r hB⟩
/-- temporary cells -/
def Tmp (C : C0) (B : Addr → Prop) (G H : Hp) (o : Addr → Option Nat) : Prop := ∀ a, B a → o a = none ∧ G a = none ∧ (∃ ob, H a = some ob ∧ im ob = false) ∧ (C.M0 a ∨ C.H0 a = none)
theorem tmp0 {C : C0} {G H : Hp} {o : Addr → Option Nat} : Tmp C (fun _ => False) G H o := fun _ h => h.elim
/-- what is not of its own is as it was -/
def Kp (Γ : RTs K αs) (s s' : Env αs) : Prop := ∀ (α : Type) (x : Var αs α), (x.rt Γ).fix = true → x.get s' = x.get s
theorem Kp.refl : Kp Γ s s := fun _ _ _ => rfl
theorem Kp.trans {s1 s2 : Env αs} (a : Kp Γ s s1) (b : Kp Γ s1 s2) : Kp Γ s s2 := fun α x h => (b α x h).trans (a α x h)
end
/-- the judgement for an expression -/
def XE (X : Cx) {αs : List Type} (Γ : RTs X.K αs) (e : Expr) {β : Type} (R : RT X.K β) (m : M αs β) : Prop :=
  ∀ (C : C0) (s : Env αs) (σ : L2.St) (G H : Hp) (o : Addr → Option Nat), Ok C Γ s σ G H o → ∀ (x : β) (s' : Env αs), m s = some (x, s') → ∀ Q : VK,
    (∀ (v : V) (G' H' : Hp) (o' : Addr → Option Nat) (B : Addr → Prop), Ok C Γ s' σ G' H' o' → Ex G G' → Kp Γ s s' → R.rel G' H' v x B → Tmp C B G' H' o' → Q v H') → wE X e σ H Q
/-- for a test -/
def XT (X : Cx) {αs : List Type} (Γ : RTs X.K αs) (e : Expr) (m : M αs Bool) : Prop :=
  ∀ (C : C0) (s : Env αs) (σ : L2.St) (G H : Hp) (o : Addr → Option Nat), Ok C Γ s σ G H o → ∀ (x : Bool) (s' : Env αs), m s = some (x, s') → ∀ Q : Bool → Hp → Prop,
    (∀ (G' H' : Hp) (o' : Addr → Option Nat), Ok C Γ s' σ G' H' o' → Ex G G' → Kp Γ s s' → Q x H') → wT X e σ H Q
def XW (X : Cx) {αs : List Type} (Γ : RTs X.K αs) (e : Expr) (m : M αs Bool) : Prop :=
  ∀ (C : C0) (s : Env αs) (σ : L2.St) (G H : Hp) (o : Addr → Option Nat), Ok C Γ s σ G H o → ∀ (x : Bool) (s' : Env αs), m s = some (x, s') → ∀ Q : Bool → Hp → Prop,
    (∀ (G' H' : Hp) (o' : Addr → Option Nat), Ok C Γ s' σ G' H' o' → Ex G G' → Kp Γ s s' → Q x H') → wW X e σ H Q
end Sm
/-! S3: expressions. -/
namespace Sm
open PySem PySem.Spec L2
open Enc (enc)

/-! ### programs over an environment -/
section
variable {αs : List Type} {α β γ δ : Type}
def mC (b : β) : M αs β := fun s => some (b, s)
def mV (x : Var αs α) : M αs α := fun s => (x.get s).bind fun a => some (a, s)
def m1 (f : α → Option β) (m : M αs α) : M αs β := fun s => (m s).bind fun p => (f p.1).bind fun b => some (b, p.2)
def m2 (f : α → β → Option γ) (m : M αs α) (n : M αs β) : M αs γ := fun s => (m s).bind fun p => (n p.2).bind fun q => (f p.1 q.1).bind fun c => some (c, q.2)
def m3 (f : α → β → γ → Option δ) (m : M αs α) (n : M αs β) (l : M αs γ) : M αs δ := fun s => (m s).bind fun p => (n p.2).bind fun q => (l q.2).bind fun r => (f p.1 q.1 r.1).bind fun c => some (c, r.2)
/-- if, on tests -/
def mIte (c : M αs Bool) (m n : M αs β) : M αs β := fun s => (c s).bind fun p => if p.1 = true then m p.2 else n p.2
theorem bindE {α β : Type} {o : Option α} {f : α → Option β} {b : β} (h : o.bind f = some b) : ∃ a, o = some a ∧ f a = some b := Option.bind_eq_some_iff.mp h
theorem m1E {f : α → Option β} {m : M αs α} {s s' : Env αs} {b : β} (h : m1 f m s = some (b, s')) : ∃ a, m s = some (a, s') ∧ f a = some b := by
  obtain ⟨⟨a, s1⟩, h1, h⟩ := bindE h
  obtain ⟨b', h2, h⟩ := bindE h
  cases h
  exact ⟨a, h1, h2⟩
theorem m2E {f : α → β → Option γ} {m : M αs α} {n : M αs β} {s s' : Env αs} {c : γ} (h : m2 f m n s = some (c, s')) : ∃ a s1 b, m s = some (a, s1) ∧ n s1 = some (b, s') ∧ f a b = some c := by
  obtain ⟨⟨a, s1⟩, h1, h⟩ := bindE h
  obtain ⟨⟨b, s2⟩, h2, h⟩ := bindE h
  obtain ⟨c', h3, h⟩ := bindE h
  cases h
  exact ⟨a, s1, b, h1, h2, h3⟩
theorem m3E {f : α → β → γ → Option δ} {m : M αs α} {n : M αs β} {l : M αs γ} {s s' : Env αs} {d : δ} (h : m3 f m n l s = some (d, s')) : ∃ a s1 b s2 c, m s = some (a, s1) ∧ n s1 = some (b, s2) ∧ l s2 = some (c, s') ∧ f a b c = some d := by
  obtain ⟨⟨a, s1⟩, h1, h⟩ := bindE h
  obtain ⟨⟨b, s2⟩, h2, h⟩ := bindE h
  obtain ⟨⟨c, s3⟩, h3, h⟩ := bindE h
  obtain ⟨d', h4, h⟩ := bindE h
  cases h
  exact ⟨a, s1, b, s2, c, h1, h2, h3, h4⟩
end

/-- new cells of one's own -/
def NewB (G H G' H' : Hp) (B : Addr → Prop) : Prop := ∀ a, B a → H a = none ∧ G' a = none ∧ ∃ ob, H' a = some ob ∧ im ob = false
theorem newB0 {G H G' H' : Hp} : NewB G H G' H' fun _ => False := fun _ h => h.elim
section
variable {X : Cx} {αs : List Type} {Γ : RTs X.K αs} {α β γ : Type} {e a b c : Expr} {R : RT X.K β}
theorem NewB.tmp {C : C0} {s : Env αs} {σ : L2.St} {G H G' H' : Hp} {o : Addr → Option Nat} {B : Addr → Prop} (k : Ok C Γ s σ G H o) (n : NewB G H G' H' B) : Tmp C B G' H' o := fun x hx => by
  obtain ⟨h1, h2, h3⟩ := n x hx
  refine ⟨?_, h2, h3, .inr ?_⟩
  · cases q : o x with
    | none => rfl
    | some i =>
      obtain ⟨_, ⟨ob, h, _⟩, _⟩ := k.own x (by rw [q]; simp)
      rw [h1] at h; cases h
  · cases q : C.H0 x with
    | none => rfl
    | some i => exact absurd h1 (k.dom x (by rw [q]; simp))
/-- leaf: nothing evaluated -/
theorem XE.leaf {t : TE} {z : β} (hpe : PE X e t) (hr : ∀ (σ : L2.St) (G H : Hp) (Q : VK), Ex G H → (∀ w G' H' B, Al G H G' H' → R.rel G' H' w z B → NewB G H G' H' B → Q w H') → t σ H Q) : XE X Γ e R (mC z) := by
  intro C s σ G H o k x s' hm Q q
  cases hm
  exact wE_of hpe (hr σ G H Q k.gh fun w G2 H2 B2 al r2 nb => q w G2 H2 o B2 (k.al al) al.g .refl r2 (nb.tmp k))
theorem XE.un {Ra : RT X.K α} {ma : M αs α} {r : V → Hp → VK → Prop} {f : α → Option β} (hpe : PE X e (fun σ H Q => wE X a σ H fun v H1 => r v H1 Q)) (ha : XE X Γ a Ra ma) (hc : Ra.fix = true)
    (hr : ∀ (G H : Hp) (v : V) (x : α) (z : β) (Q : VK), Ex G H → Ra.shr G v x → f x = some z → (∀ w G' H' B, Al G H G' H' → R.rel G' H' w z B → NewB G H G' H' B → Q w H') → r v H Q) : XE X Γ e R (m1 f ma) := by
  intro C s σ G H o k z s' hm Q q
  obtain ⟨x, h1, h2⟩ := m1E hm
  refine wE_of hpe ?_
  show wE X a σ H (fun v H1 => r v H1 Q)
  refine ha C s σ G H o k x s' h1 _ fun v G1 H1 o1 B k1 g1 kp r1 t1 => ?_
  exact hr G1 H1 v x z Q k1.gh ((cpy_of hc _ _ _ _ _).mp r1) h2 fun w G2 H2 B2 al r2 nb => q w G2 H2 o1 B2 (k1.al al) (g1.trans al.g) kp r2 (nb.tmp k1)
theorem XE.bin {Ra : RT X.K α} {Rb : RT X.K γ} {ma : M αs α} {mb : M αs γ} {r : V → V → Hp → VK → Prop} {f : α → γ → Option β} (hpe : PE X e (fun σ H Q => wE X a σ H fun v H1 => wE X b σ H1 fun u H2 => r v u H2 Q)) (ha : XE X Γ a Ra ma) (hb : XE X Γ b Rb mb)
    (hca : Ra.fix = true) (hcb : Rb.fix = true)
    (hr : ∀ (G H : Hp) (v u : V) (x : α) (y : γ) (z : β) (Q : VK), Ex G H → Ra.shr G v x → Rb.shr G u y → f x y = some z → (∀ w G' H' B, Al G H G' H' → R.rel G' H' w z B → NewB G H G' H' B → Q w H') → r v u H Q) : XE X Γ e R (m2 f ma mb) := by
  intro C s σ G H o k z s' hm Q q
  obtain ⟨x, s1, y, h1, h2, h3⟩ := m2E hm
  refine wE_of hpe ?_
  show wE X a σ H (fun v H1 => wE X b σ H1 fun u H2 => r v u H2 Q)
  refine ha C s σ G H o k x s1 h1 _ fun v G1 H1 o1 B k1 g1 kp r1 t1 => ?_
  refine hb C s1 σ G1 H1 o1 k1 y s' h2 _ fun u G2 H2 o2 B' k2 g2 kp2 r2 t2 => ?_
  exact hr G2 H2 v u x y z Q k2.gh (Ra.smono ((cpy_of hca _ _ _ _ _).mp r1) g2) ((cpy_of hcb _ _ _ _ _).mp r2) h3 fun w G3 H3 B3 al r3 nb => q w G3 H3 o2 B3 (k2.al al) ((g1.trans g2).trans al.g) (kp.trans kp2) r3 (nb.tmp k2)
theorem XE.tri {Ra : RT X.K α} {Rb : RT X.K γ} {δ : Type} {Rd : RT X.K δ} {ma : M αs α} {mb : M αs γ} {md : M αs δ} {d : Expr} {r : V → V → V → Hp → VK → Prop} {f : α → γ → δ → Option β}
    (hpe : PE X e (fun σ H Q => wE X a σ H fun v H1 => wE X b σ H1 fun u H2 => wE X d σ H2 fun w H3 => r v u w H3 Q)) (ha : XE X Γ a Ra ma) (hb : XE X Γ b Rb mb) (hd : XE X Γ d Rd md)
    (hca : Ra.fix = true) (hcb : Rb.fix = true) (hcd : Rd.fix = true)
    (hr : ∀ (G H : Hp) (v u t : V) (x : α) (y : γ) (w : δ) (z : β) (Q : VK), Ex G H → Ra.shr G v x → Rb.shr G u y → Rd.shr G t w → f x y w = some z → (∀ w G' H' B, Al G H G' H' → R.rel G' H' w z B → NewB G H G' H' B → Q w H') → r v u t H Q) : XE X Γ e R (m3 f ma mb md) := by
  intro C s σ G H o k z s' hm Q q
  obtain ⟨x, s1, y, s2, w, h1, h2, h3, h4⟩ := m3E hm
  refine wE_of hpe ?_
  show wE X a σ H (fun v H1 => wE X b σ H1 fun u H2 => wE X d σ H2 fun w H3 => r v u w H3 Q)
  refine ha C s σ G H o k x s1 h1 _ fun v G1 H1 o1 B k1 g1 kp r1 t1 => ?_
  refine hb C s1 σ G1 H1 o1 k1 y s2 h2 _ fun u G2 H2 o2 B' k2 g2 kp2 r2 t2 => ?_
  refine hd C s2 σ G2 H2 o2 k2 w s' h3 _ fun t G3 H3 o3 B'' k3 g3 kp3 r3 t3 => ?_
  exact hr G3 H3 v u t x y w z Q k3.gh (Ra.smono (Ra.smono ((cpy_of hca _ _ _ _ _).mp r1) g2) g3) (Rb.smono ((cpy_of hcb _ _ _ _ _).mp r2) g3) ((cpy_of hcd _ _ _ _ _).mp r3) h4
    fun w G3 H3 B3 al r3 nb => q w G3 H3 o3 B3 (k3.al al) (((g1.trans g2).trans g3).trans al.g) ((kp.trans kp2).trans kp3) r3 (nb.tmp k3)
/-- a name whose slot may be shared -/
theorem XE.var {x : Var αs β} {n : Str} {pos : Pos} (hpe : PE X (.Name n pos) (tVar x.idx)) (hc : (x.rt Γ).fix = true) (hR : R.fix = true) (hs : ∀ G v y, (x.rt Γ).shr G v y → R.shr G v y) : XE X Γ (.Name n pos) R (mV x) := by
  intro C s σ G H o k z s' hm Q q
  obtain ⟨y, h1, h⟩ := bindE hm
  cases h
  obtain ⟨v, e, r⟩ := k.sl β x z h1
  exact wE_of hpe ⟨v, e, q v G H o (fun _ => False) k (Ex.refl _) .refl ((cpy_of hR _ _ _ _ _).mpr (hs _ _ _ ((cpy_of hc _ _ _ _ _).mp r))) tmp0⟩
/-- one's own value given away to be shared -/
theorem XE.freeze {R0 : RT X.K β} {m : M αs β} (h : XE X Γ e R0 m) : XE X Γ e (RT.sh R0) m := by
  classical
  intro C s σ G H o k z s' hm Q q
  refine h C s σ G H o k z s' hm Q fun v G1 H1 o1 B k1 g1 kp r1 t1 => ?_
  have ex : Ex G1 (fun a => if B a then H1 a else G1 a) := fun a ob e => by
    by_cases hb : B a
    · have := (t1 a hb).2.1; rw [this] at e; cases e
    · simp [hb, e]
  refine q v (fun a => if B a then H1 a else G1 a) H1 o1 (fun _ => False) ?_ (g1.trans ex) kp (R0.view r1 ex fun a ob hb e => by simp [hb, e]) tmp0
  refine ⟨k1.g.trans ex, fun a ob e => ?_, fun a nm h0 g0 => ?_, k1.fr, k1.dom, k1.imm, fun a ha => ?_, k1.len, fun α x y hx => ?_⟩
  · by_cases hb : B a
    · simpa [hb] using e
    · simp only [hb, if_false] at e
      exact k1.gh a ob e
  · have nb : ¬ B a := fun hb => by
      rcases (t1 a hb).2.2.2 with z | z
      · exact nm z
      · exact h0 z
    simp only [nb, if_false]
    exact k1.new a nm h0 g0
  · obtain ⟨h1, h2, h3⟩ := k1.own a ha
    have nb : ¬ B a := fun hb => ha (t1 a hb).1
    exact ⟨by simp [nb, h1], h2, h3⟩
  · obtain ⟨u, e, r⟩ := k1.sl α x y hx
    exact ⟨u, e, (x.rt Γ).grow r ex fun _ _ => rfl⟩
/-- what is owned at x seen as shared for a while -/
theorem Ok.borrow {C : C0} {s : Env αs} {σ : L2.St} {G H : Hp} {o : Addr → Option Nat} (k : Ok C Γ s σ G H o) {α : Type} (x : Var αs α) :
    ∃ C' G1 o1, Ok C' (x.setR (RT.sh (x.rt Γ)) Γ) s σ G1 H o1 ∧ Ex G G1 ∧ ∀ s' G' H' o', Ok C' (x.setR (RT.sh (x.rt Γ)) Γ) s' σ G' H' o' → Ex G1 G' → Kp (x.setR (RT.sh (x.rt Γ)) Γ) s s' →
      ∃ G2 o2, Ok C Γ s' σ G2 H' o2 ∧ Ex G G2 ∧ ExI G' G2 ∧ Kp Γ s s' ∧ ∀ B, Tmp C' B G' H' o' → Tmp C B G2 H' o2 := by
  classical
  have SG : ∀ a, o a = some x.idx → G a = none := fun a h => (k.own a (by rw [h]; simp)).1
  have ex1 : Ex G (fun a => if o a = some x.idx then H a else G a) := fun a ob e => by
    by_cases h : o a = some x.idx
    · rw [SG a h] at e; cases e
    · simp only [h, if_false]; exact e
  refine ⟨⟨fun a => if o a = some x.idx then H a else G a, H, fun a => o a ≠ none ∧ o a ≠ some x.idx⟩, fun a => if o a = some x.idx then H a else G a, fun a => if o a = some x.idx then none else o a, ?_, ex1, ?_⟩
  · refine ⟨Ex.refl _, fun a ob e => ?_, fun _ _ _ h => h, fun _ _ _ h => h, fun _ h => h, fun _ _ h _ => h, fun a ha => ?_, k.len, Var.split x ?_ fun β y hy z hz => ?_⟩
    · by_cases h : o a = some x.idx
      · simpa [h] using e
      · simp only [h, if_false] at e; exact k.gh a ob e
    · by_cases h : o a = some x.idx
      · simp [h] at ha
      · simp only [h, if_false] at ha
        obtain ⟨h1, h2, h3⟩ := k.own a ha
        exact ⟨by simp only [h, if_false]; exact h1, h2, .inl ⟨ha, h⟩⟩
    · intro z hz
      obtain ⟨v, e, r⟩ := k.sl α x z hz
      refine ⟨v, e, ?_⟩
      rw [Var.rt_set]
      exact (x.rt Γ).view r ex1 fun a ob ha hb => by
        have ha' : o a = some x.idx := ha
        simp only [ha', if_true]; exact hb
    · obtain ⟨v, e, r⟩ := k.sl β y z hz
      refine ⟨v, e, ?_⟩
      rw [Var.rt_ne x y _ _ hy]
      refine (y.rt Γ).wid ((y.rt Γ).grow r ex1 fun _ _ => rfl) fun a ha => ?_
      have ha' : o a = some y.idx := ha
      show (if o a = some x.idx then none else o a) = some y.idx
      rw [if_neg (by rw [ha']; exact fun e => hy (Option.some.inj e))]
      exact ha'
  · intro s' G' H' o' k' e' kp
    have S1 : ∀ a, o a = some x.idx → ∃ ob, H a = some ob ∧ H' a = some ob ∧ G' a = some ob ∧ im ob = false := fun a h => by
      obtain ⟨_, ⟨ob, h2, h3⟩, _⟩ := k.own a (by rw [h]; simp)
      exact ⟨ob, h2, k'.fr a ob (fun z => z.2 h) h2, e' a ob (by simp only [h, if_true]; exact h2), h3⟩
    have exg : Ex G (fun a => if o a = some x.idx then none else G' a) := fun a ob e => by
      have h : o a ≠ some x.idx := fun h => by rw [SG a h] at e; cases e
      simp only [h, if_false]
      exact e' a ob (ex1 a ob e)
    have exi : ExI G' (fun a => if o a = some x.idx then none else G' a) := fun a ob e i => by
      have h : o a ≠ some x.idx := fun h => by
        obtain ⟨ob', _, _, h3, h4⟩ := S1 a h
        rw [h3] at e; cases e; rw [h4] at i; cases i
      simp only [h, if_false]; exact e
    have nS : ∀ a i, o' a = some i → o a ≠ some x.idx := fun a i h z => by
      obtain ⟨ob', _, _, h3, _⟩ := S1 a z
      have := (k'.own a (by rw [h]; simp)).1
      rw [this] at h3; cases h3
    have back : ∀ a, ((o a ≠ none ∧ o a ≠ some x.idx) ∨ H a = none) → C.M0 a ∨ C.H0 a = none := fun a h => by
      rcases h with h | h
      · exact (k.own a h.1).2.2
      · right
        cases q : C.H0 a with
        | none => rfl
        | some u => exact absurd h (k.dom a (by rw [q]; simp))
    have kpx : x.get s' = x.get s := kp α x (by rw [Var.rt_set]; rfl)
    have kpy : ∀ (β : Type) (y : Var αs β), y.idx ≠ x.idx → (y.rt Γ).fix = true → y.get s' = y.get s := fun β y hy hf => kp β y (by rw [Var.rt_ne x y _ _ hy]; exact hf)
    refine ⟨fun a => if o a = some x.idx then none else G' a, fun a => if o a = some x.idx then some x.idx else o' a, ?_, exg, exi, Var.split x (fun _ => kpx) kpy, fun B tB a hb => ?_⟩
    · refine ⟨k.g.trans exg, fun a ob e => ?_, fun a nm h0 g0 => ?_, fun a ob nm h0 => ?_, fun a h0 => ?_, fun a ob h0 i => k'.imm a ob (k.imm a ob h0 i) i, fun a ha => ?_, k'.len, Var.split x ?_ fun β y hy z hz => ?_⟩
      · by_cases h : o a = some x.idx
        · simp [h] at e
        · simp only [h, if_false] at e; exact k'.gh a ob e
      · by_cases h : o a = some x.idx
        · simp [h]
        · simp only [h, if_false]
          refine k'.new a (fun z => ?_) (k.dom a h0) (by simp only [h, if_false]; exact k.new a nm h0 g0)
          rcases (k.own a z.1).2.2 with q | q
          · exact nm q
          · exact h0 q
      · refine k'.fr a ob (fun z => ?_) (k.fr a ob nm h0)
        rcases (k.own a z.1).2.2 with q | q
        · exact nm q
        · rw [q] at h0; cases h0
      · exact k'.dom a (k.dom a h0)
      · by_cases h : o a = some x.idx
        · obtain ⟨ob, _, h2, _, h4⟩ := S1 a h
          exact ⟨by simp [h], ⟨ob, h2, h4⟩, (k.own a (by rw [h]; simp)).2.2⟩
        · simp only [h, if_false] at ha
          obtain ⟨h1, h2, h3⟩ := k'.own a ha
          exact ⟨by simp only [h, if_false]; exact h1, h2, back a h3⟩
      · intro z hz
        rw [kpx] at hz
        obtain ⟨v, e, r⟩ := k.sl α x z hz
        refine ⟨v, e, (x.rt Γ).wid ((x.rt Γ).grow r exg fun a ha => ?_) fun a ha => ?_⟩
        · obtain ⟨ob, h1, h2, _⟩ := S1 a ha
          rw [h1, h2]
        · have ha' : o a = some x.idx := ha
          simp [ha']
      · cases hf : (y.rt Γ).fix with
        | true =>
          rw [kpy β y hy hf] at hz
          obtain ⟨v, e, r⟩ := k.sl β y z hz
          exact ⟨v, e, (cpy_of hf _ _ _ _ _).mpr ((y.rt Γ).smono ((cpy_of hf _ _ _ _ _).mp r) exg)⟩
        | false =>
          obtain ⟨v, e, r⟩ := k'.sl β y z hz
          rw [Var.rt_ne x y _ _ hy] at r
          refine ⟨v, e, (y.rt Γ).wid (lin_of hf _ _ _ _ _ _ r exi) fun a ha => ?_⟩
          have ha' : o' a = some y.idx := ha
          show (if o a = some x.idx then some x.idx else o' a) = some y.idx
          rw [if_neg (nS a _ ha')]; exact ha'
    · obtain ⟨h1, h2, h3, h4⟩ := tB a hb
      have h : o a ≠ some x.idx := fun h => by
        obtain ⟨ob', _, _, h3, _⟩ := S1 a h
        rw [h2] at h3; cases h3
      exact ⟨by simp only [h, if_false]; exact h1, by simp only [h, if_false]; exact h2, h3, back a h4⟩
theorem XE.borrow {m : M αs β} {α : Type} (x : Var αs α) (h : XE X (x.setR (RT.sh (x.rt Γ)) Γ) e R m) (hR : Lin R) : XE X Γ e R m := by
  intro C s σ G H o k z s' hm Q q
  obtain ⟨C', G1, o1, k1, e1, back⟩ := k.borrow x
  refine h C' s σ G1 H o1 k1 z s' hm Q fun v G' H' o' B k' e' kp r t => ?_
  obtain ⟨G2, o2, k2, e2, ei, kp2, tb⟩ := back s' G' H' o' k' e' kp
  exact q v G2 H' o2 B k2 e2 kp2 (hR _ _ _ _ _ _ r ei) (tb B t)
theorem XT.borrow {m : M αs Bool} {α : Type} (x : Var αs α) (h : XT X (x.setR (RT.sh (x.rt Γ)) Γ) e m) : XT X Γ e m := by
  intro C s σ G H o k z s' hm Q q
  obtain ⟨C', G1, o1, k1, e1, back⟩ := k.borrow x
  refine h C' s σ G1 H o1 k1 z s' hm Q fun G' H' o' k' e' kp => ?_
  obtain ⟨G2, o2, k2, e2, ei, kp2, tb⟩ := back s' G' H' o' k' e' kp
  exact q G2 H' o2 k2 e2 kp2
end
end Sm
/-! S4: the single forms of expressions. -/
namespace Sm
open PySem PySem.Spec L2
open Enc (enc)

/-! ### the programs' own functions -/
/-- a function that nobody unfolds -/
noncomputable def Seal {α : Type} (a : α) : { b : α // b = a } := Classical.choice ⟨⟨a, rfl⟩⟩
def iadd (i j : Int) : Option Int := some (i + j)
def isub (i j : Int) : Option Int := some (i - j)
noncomputable def imul : Int → Int → Option Int := (Seal fun (i j : Int) => if (-(2 ^ 64) < i ∧ i < 2 ^ 64) ∨ (-(2 ^ 64) < j ∧ j < 2 ^ 64) then some (i * j) else none).1
theorem imul_eq (i j : Int) : imul i j = if (-(2 ^ 64) < i ∧ i < 2 ^ 64) ∨ (-(2 ^ 64) < j ∧ j < 2 ^ 64) then some (i * j) else none := by unfold imul; rw [(Seal _).2]
noncomputable def imod : Int → Int → Option Int := (Seal fun (i j : Int) => if 0 < j then some (i % j) else none).1
theorem imod_eq (i j : Int) : imod i j = if 0 < j then some (i % j) else none := by unfold imod; rw [(Seal _).2]
noncomputable def idiv : Int → Int → Option Int := (Seal fun (i j : Int) => if 0 < j ∧ j < 1073741824 then some (i / j) else none).1
theorem idiv_eq (i j : Int) : idiv i j = if 0 < j ∧ j < 1073741824 then some (i / j) else none := by unfold idiv; rw [(Seal _).2]
noncomputable def ipow : Int → Int → Option Int := (Seal fun (i j : Int) => if 0 ≤ j ∧ j ≤ 1000000 ∧ i.natAbs < 2 ^ 64 then some (i ^ j.toNat) else none).1
theorem ipow_eq (i j : Int) : ipow i j = if 0 ≤ j ∧ j ≤ 1000000 ∧ i.natAbs < 2 ^ 64 then some (i ^ j.toNat) else none := by unfold ipow; rw [(Seal _).2]
def iband (i j : Int) : Option Int := some (Builtin.bitAnd i j)
def ineg (i : Int) : Option Int := some (-i)
noncomputable def ilt : Int → Int → Option Bool := (Seal fun (i j : Int) => some (decide (i < j))).1
theorem ilt_eq (i j : Int) : ilt i j = some (decide (i < j)) := by unfold ilt; rw [(Seal _).2]
noncomputable def ile : Int → Int → Option Bool := (Seal fun (i j : Int) => some (decide (i ≤ j))).1
theorem ile_eq (i j : Int) : ile i j = some (decide (i ≤ j)) := by unfold ile; rw [(Seal _).2]
noncomputable def igt : Int → Int → Option Bool := (Seal fun (i j : Int) => some (decide (j < i))).1
theorem igt_eq (i j : Int) : igt i j = some (decide (j < i)) := by unfold igt; rw [(Seal _).2]
noncomputable def ige : Int → Int → Option Bool := (Seal fun (i j : Int) => some (decide (j ≤ i))).1
theorem ige_eq (i j : Int) : ige i j = some (decide (j ≤ i)) := by unfold ige; rw [(Seal _).2]
def ieq {α : Type} [DecidableEq α] (x y : α) : Option Bool := some (decide (x = y))
def ine {α : Type} [DecidableEq α] (x y : α) : Option Bool := some (!decide (x = y))
def isin {α : Type} [DecidableEq α] (x : α) (xs : List α) : Option Bool := some (decide (x ∈ xs))
def notin {α : Type} [DecidableEq α] (x : α) (xs : List α) : Option Bool := some (!decide (x ∈ xs))
noncomputable def idx {α : Type} : List α → Int → Option α := (Seal fun (xs : List α) (i : Int) => atI xs i).1
theorem idx_eq {α : Type} (xs : List α) (i : Int) : idx xs i = atI xs i := by unfold idx; rw [(Seal _).2]
def ilen {α : Type} (xs : List α) : Option Int := some (xs.length : Int)
def idt {α : Type} (x : α) : Option α := some x
def fst' {α β : Type} (x : α × β) : Option α := some x.1
def snd' {α β : Type} (x : α × β) : Option β := some x.2
def pair {α β : Type} (x : α) (y : β) : Option (α × β) := some (x, y)
def trip {α β γ : Type} (x : α) (y : β) (z : γ) : Option (T3 α β γ) := some ⟨x, y, z⟩
def iabs (i : Int) : Option Int := some (if i < 0 then -i else i)
def imax (i j : Int) : Option Int := some (if j > i then j else i)
def imin (i j : Int) : Option Int := some (if j < i then j else i)
def bnot (b : Bool) : Option Bool := some (!b)
def copyl {α : Type} (xs : List α) : Option (List α) := some xs
def indexOf {α : Type} [DecidableEq α] (xs : List α) (x : α) : Option Int := Option.map (fun (n : Nat) => (n : Int)) (xs.findIdx? (· = x))
def cnt {α : Type} [DecidableEq α] (xs : List α) (x : α) : Option Int := some ((xs.filter (· = x)).length : Int)

section
variable {X : Cx} {αs : List Type} {Γ : RTs X.K αs} {α β γ : Type} {e a b c : Expr} {pos : Pos}
abbrev tI (X : Cx) : RT X.K Int := RT.dat X.K Int
abbrev tB' (X : Cx) : RT X.K Bool := RT.dat X.K Bool
theorem dq_int {K : Fr} {G : Hp} {v : V} {i : Int} (h : Dq K G v (enc i)) : v = .int i := by
  have h' : Dq K G v (.int i) := h
  cases h'; rfl
theorem dq_bl {K : Fr} {G : Hp} {v : V} {i : Bool} (h : Dq K G v (enc i)) : v = .bl i := by
  have h' : Dq K G v (.bool i) := h
  cases h'; rfl
theorem dq_str {K : Fr} {G : Hp} {v : V} {i : Str} (h : Dq K G v (enc i)) : v = .str i := by
  have h' : Dq K G v (.str i) := h
  cases h'; rfl
theorem dq_list {K : Fr} {G : Hp} {v : V} [Enc α] {xs : List α} (h : Dq K G v (enc xs)) : ∃ p vs, v = .ref p ∧ G p = some (.lst vs) ∧ All2 (fun v x => Dq K G v (enc x)) vs xs := by
  have h' : Dq K G v (.list (xs.map enc)) := h
  cases h' with
  | lst h1 k => exact ⟨_, _, rfl, h1, dqAll_all2.mp k⟩
theorem dq_pair {K : Fr} {G : Hp} {v : V} [Enc α] [Enc β] {x : α × β} (h : Dq K G v (enc x)) : ∃ p a b, v = .ref p ∧ SqT K G p [a, b] ∧ Dq K G a (enc x.1) ∧ Dq K G b (enc x.2) := by
  have h' : Dq K G v (.tuple [enc x.1, enc x.2]) := h
  cases h' with
  | tup h k =>
    cases k with
    | cons k1 k =>
      cases k with
      | cons k2 k => cases k; exact ⟨_, _, _, rfl, h, k1, k2⟩
theorem dq_t3 {K : Fr} {G : Hp} {v : V} [Enc α] [Enc β] [Enc γ] {x : T3 α β γ} (h : Dq K G v (enc x)) : ∃ p a b c, v = .ref p ∧ SqT K G p [a, b, c] ∧ Dq K G a (enc x.a) ∧ Dq K G b (enc x.b) ∧ Dq K G c (enc x.c) := by
  have h' : Dq K G v (.tuple [enc x.a, enc x.b, enc x.c]) := h
  cases h' with
  | tup h k =>
    cases k with
    | cons k1 k =>
      cases k with
      | cons k2 k =>
        cases k with
        | cons k3 k => cases k; exact ⟨_, _, _, _, rfl, h, k1, k2, k3⟩
/-- the value may be shared at once: nothing new -/
theorem here {Q : VK} [Enc β] {G H : Hp} {w : V} {z : β} (e : Ex G H) (h : Dq X.K G w (enc z)) (q : ∀ w G' H' B, Al G H G' H' → (RT.dat X.K β).rel G' H' w z B → NewB G H G' H' B → Q w H') : Q w H :=
  q w G H (fun _ => False) (.refl e) h newB0

/-! ### constants -/
theorem XE.int {i : Int} {j} : XE X Γ (.Constant (.int i) j pos) (RT.dat X.K Int) (mC i) := .leaf pe_int fun _ G H Q e q => here (z := i) e (.int i) q
theorem XE.bl {i : Bool} {j} : XE X Γ (.Constant (.bool i) j pos) (RT.dat X.K Bool) (mC i) := .leaf pe_bl fun _ G H Q e q => here (z := i) e (.bl i) q
theorem XE.str {i : Str} {j} : XE X Γ (.Constant (.str i) j pos) (RT.dat X.K Str) (mC i) := .leaf pe_str fun _ G H Q e q => here (z := i) e (.str i) q
theorem XE.non {j} : XE X Γ (.Constant .none j pos) (RT.dat X.K Unit) (mC ()) := .leaf pe_non fun _ G H Q e q => here (z := ()) e .non q
theorem XE.name {x : Var αs β} {n : Str} {R : RT X.K β} (hpe : PE X (.Name n pos) (tVar x.idx)) (hr : x.rt Γ = R) (hc : R.fix = true) : XE X Γ (.Name n pos) R (mV x) :=
  .var hpe (by rw [hr]; exact hc) hc fun G v y h => by rw [hr] at h; exact h

/-! ### arithmetic -/
section
variable {ma mb : M αs Int} {op : Operator}
theorem XE.opI0 {g : Int → Int → Int} {f : Int → Int → Option Int} (ho : OpR X (binaryOp op) (rI0 fun i j => .int (g i j))) (hf : ∀ i j z, f i j = some z → z = g i j) (ha : XE X Γ a (RT.dat X.K Int) ma) (hb : XE X Γ b (RT.dat X.K Int) mb) : XE X Γ (.BinOp a op b pos) (RT.dat X.K Int) (m2 f ma mb) :=
  .bin (r := rI0 fun i j => .int (g i j)) (pe_op ho pe_w pe_w) ha hb rfl rfl fun G H v u x y z Q e hx hy hz q => by
    cases dq_int hx; cases dq_int hy; cases hf _ _ _ hz
    exact ⟨x, y, rfl, rfl, here (z := g x y) e (.int _) q⟩
theorem XE.opI {Cn : Int → Int → Prop} {g : Int → Int → Int} {f : Int → Int → Option Int} (ho : OpR X (binaryOp op) (rI Cn fun i j => .int (g i j))) (hf : ∀ i j z, f i j = some z → Cn i j ∧ z = g i j) (ha : XE X Γ a (RT.dat X.K Int) ma) (hb : XE X Γ b (RT.dat X.K Int) mb) : XE X Γ (.BinOp a op b pos) (RT.dat X.K Int) (m2 f ma mb) :=
  .bin (r := rI Cn fun i j => .int (g i j)) (pe_op ho pe_w pe_w) ha hb rfl rfl fun G H v u x y z Q e hx hy hz q => by
    cases dq_int hx; cases dq_int hy
    obtain ⟨hc, rfl⟩ := hf _ _ _ hz
    exact ⟨x, y, rfl, rfl, hc, here (z := g x y) e (.int _) q⟩
theorem XE.add (ha : XE X Γ a (RT.dat X.K Int) ma) (hb : XE X Γ b (RT.dat X.K Int) mb) : XE X Γ (.BinOp a .Add b pos) (RT.dat X.K Int) (m2 iadd ma mb) := .opI0 op_add (fun _ _ _ h => (Option.some.inj h).symm) ha hb
theorem XE.sub (ha : XE X Γ a (RT.dat X.K Int) ma) (hb : XE X Γ b (RT.dat X.K Int) mb) : XE X Γ (.BinOp a .Sub b pos) (RT.dat X.K Int) (m2 isub ma mb) := .opI0 op_sub (fun _ _ _ h => (Option.some.inj h).symm) ha hb
theorem XE.band (ha : XE X Γ a (RT.dat X.K Int) ma) (hb : XE X Γ b (RT.dat X.K Int) mb) : XE X Γ (.BinOp a .BitAnd b pos) (RT.dat X.K Int) (m2 iband ma mb) := .opI0 op_and (fun _ _ _ h => (Option.some.inj h).symm) ha hb
theorem ite_some {c : Prop} [Decidable c] {α : Type} {a z : α} (h : (if c then some a else none) = some z) : c ∧ z = a := by
  by_cases hc : c
  · rw [if_pos hc] at h; exact ⟨hc, (Option.some.inj h).symm⟩
  · rw [if_neg hc] at h; cases h
theorem XE.mul (ha : XE X Γ a (RT.dat X.K Int) ma) (hb : XE X Γ b (RT.dat X.K Int) mb) : XE X Γ (.BinOp a .Mult b pos) (RT.dat X.K Int) (m2 imul ma mb) := .opI op_mul (fun _ _ _ h => by rw [imul_eq] at h; have t := ite_some h; exact t) ha hb
theorem XE.mod (ha : XE X Γ a (RT.dat X.K Int) ma) (hb : XE X Γ b (RT.dat X.K Int) mb) : XE X Γ (.BinOp a .Mod b pos) (RT.dat X.K Int) (m2 imod ma mb) := .opI op_mod (fun _ _ _ h => by rw [imod_eq] at h; have t := ite_some h; exact t) ha hb
theorem XE.fdiv (ha : XE X Γ a (RT.dat X.K Int) ma) (hb : XE X Γ b (RT.dat X.K Int) mb) : XE X Γ (.BinOp a .FloorDiv b pos) (RT.dat X.K Int) (m2 idiv ma mb) := .opI op_fdiv (fun _ _ _ h => by rw [idiv_eq] at h; have t := ite_some h; exact t) ha hb
theorem XE.pow (ha : XE X Γ a (RT.dat X.K Int) ma) (hb : XE X Γ b (RT.dat X.K Int) mb) : XE X Γ (.BinOp a .Pow b pos) (RT.dat X.K Int) (m2 ipow ma mb) := .opI op_pow (fun _ _ _ h => by rw [ipow_eq] at h; have t := ite_some h; exact t) ha hb

end
/-! ### comparisons -/
/-- a comparison -/
def XC (X : Cx) {αs : List Type} (Γ : RTs X.K αs) (op : CmpOp) (a b : Expr) (m : M αs Bool) : Prop :=
  behindInMarks op b = false ∧ ∃ r : R2, OpR X (compareOp op) r ∧ ∀ (C : C0) (s : Env αs) (σ : L2.St) (G H : Hp) (o : Addr → Option Nat), Ok C Γ s σ G H o → ∀ (z : Bool) (s' : Env αs), m s = some (z, s') → ∀ Q : VK,
    (∀ (G' H' : Hp) (o' : Addr → Option Nat), Ok C Γ s' σ G' H' o' → Ex G G' → Kp Γ s s' → Q (.bl z) H') → tOp r (wE X a) (wE X b) σ H Q
theorem XC.bin {op : CmpOp} {Ra : RT X.K α} {Rb : RT X.K γ} {ma : M αs α} {mb : M αs γ} {r : R2} {f : α → γ → Option Bool} (ho : OpR X (compareOp op) r) (hm : behindInMarks op b = false) (ha : XE X Γ a Ra ma) (hb : XE X Γ b Rb mb)
    (hca : Ra.fix = true) (hcb : Rb.fix = true) (hr : ∀ (G H : Hp) (v u : V) (x : α) (y : γ) (z : Bool) (Q : VK), Ex G H → Ra.shr G v x → Rb.shr G u y → f x y = some z → Q (.bl z) H → r v u H Q) : XC X Γ op a b (m2 f ma mb) := by
  refine ⟨hm, r, ho, fun C s σ G H o k z s' hm Q q => ?_⟩
  obtain ⟨x, s1, y, h1, h2, h3⟩ := m2E hm
  refine ha C s σ G H o k x s1 h1 _ fun v G1 H1 o1 B k1 g1 kp r1 t1 => ?_
  refine hb C s1 σ G1 H1 o1 k1 y s' h2 _ fun u G2 H2 o2 B' k2 g2 kp2 r2 t2 => ?_
  exact hr G2 H2 v u x y z Q k2.gh (Ra.smono ((cpy_of hca _ _ _ _ _).mp r1) g2) ((cpy_of hcb _ _ _ _ _).mp r2) h3 (q G2 H2 o2 k2 (g1.trans g2) (kp.trans kp2))
theorem XE.ofC {m : M αs Bool} {op : CmpOp} (h : XC X Γ op a b m) : XE X Γ (.Compare a [op] [b] pos) (RT.dat X.K Bool) m := by
  obtain ⟨hb, r, ho, h⟩ := h
  intro C s σ G H o k z s' hm Q q
  exact wE_of (pe_cmpR ho pe_w pe_w hb) (h C s σ G H o k z s' hm Q fun G1 H1 o1 k1 g1 kp => q _ G1 H1 o1 (fun _ => False) k1 g1 kp (show Dq X.K G1 (.bl z) (.bool z) from .bl _) tmp0)
theorem XT.ofC {m : M αs Bool} {op : CmpOp} (h : XC X Γ op a b m) : XT X Γ (.Compare a [op] [b] pos) m := by
  obtain ⟨hb, r, ho, h⟩ := h
  intro C s σ G H o k z s' hm Q q
  exact wT_of (pt_cmpR ho pe_w pe_w hb) (h C s σ G H o k z s' hm _ fun G1 H1 o1 k1 g1 kp => ⟨z, rfl, q G1 H1 o1 k1 g1 kp⟩)
section
variable {ma mb : M αs Int}
theorem XC.cmpI {cop : CmpOp} {g : Int → Int → Bool} {f : Int → Int → Option Bool} (ho : OpR X (compareOp cop) (rI0 fun i j => .bl (g i j))) (hm : behindInMarks cop b = false) (hf : ∀ i j z, f i j = some z → z = g i j) (ha : XE X Γ a (RT.dat X.K Int) ma) (hb : XE X Γ b (RT.dat X.K Int) mb) :
    XC X Γ cop a b (m2 f ma mb) :=
  .bin (r := rI0 fun i j => .bl (g i j)) ho hm ha hb rfl rfl fun G H v u x y z Q e hx hy hz q => by
    cases dq_int hx; cases dq_int hy; cases hf _ _ _ hz
    exact ⟨x, y, rfl, rfl, q⟩
theorem XC.lt (ha : XE X Γ a (RT.dat X.K Int) ma) (hb : XE X Γ b (RT.dat X.K Int) mb) : XC X Γ .Lt a b (m2 ilt ma mb) := .cmpI op_lt (nobehind _ (by decide) (by decide)) (fun _ _ _ h => by rw [ilt_eq] at h; exact (Option.some.inj h).symm) ha hb
theorem XC.le (ha : XE X Γ a (RT.dat X.K Int) ma) (hb : XE X Γ b (RT.dat X.K Int) mb) : XC X Γ .LtE a b (m2 ile ma mb) := .cmpI op_le (nobehind _ (by decide) (by decide)) (fun _ _ _ h => by rw [ile_eq] at h; exact (Option.some.inj h).symm) ha hb
theorem XC.gt (ha : XE X Γ a (RT.dat X.K Int) ma) (hb : XE X Γ b (RT.dat X.K Int) mb) : XC X Γ .Gt a b (m2 igt ma mb) := .cmpI op_gt (nobehind _ (by decide) (by decide)) (fun _ _ _ h => by rw [igt_eq] at h; exact (Option.some.inj h).symm) ha hb
theorem XC.ge (ha : XE X Γ a (RT.dat X.K Int) ma) (hb : XE X Γ b (RT.dat X.K Int) mb) : XC X Γ .GtE a b (m2 ige ma mb) := .cmpI op_ge (nobehind _ (by decide) (by decide)) (fun _ _ _ h => by rw [ige_eq] at h; exact (Option.some.inj h).symm) ha hb
end
/-- what is compared deeply -/
theorem XC.eq [Enc α] [DecidableEq α] [EqE α] [Lay α] {ma mb : M αs α} (ha : XE X Γ a (RT.dat X.K α) ma) (hb : XE X Γ b (RT.dat X.K α) mb) (hu : X.A.units + 65 < cLine) (hd : Lay.dep α ≤ 64 := by decide) : XC X Γ .Eq a b (m2 ieq ma mb) :=
  .bin (r := rEqD X.K) (op_eqD (by omega)) (nobehind _ (by decide) (by decide)) ha hb rfl rfl fun G H v u x y z Q e hx hy hz q => by
    cases hz
    refine ⟨enc x, enc y, dq_dp (dq_mono e hx), dq_dp (dq_mono e hy), shaped_enc hd x, shaped_enc hd y, ?_⟩
    rw [EqE.eqv]
    exact q
theorem XC.ne [Enc α] [DecidableEq α] [EqE α] [Lay α] {ma mb : M αs α} (ha : XE X Γ a (RT.dat X.K α) ma) (hb : XE X Γ b (RT.dat X.K α) mb) (hu : X.A.units + 65 < cLine) (hd : Lay.dep α ≤ 64 := by decide) : XC X Γ .NotEq a b (m2 ine ma mb) :=
  .bin (r := rNeD X.K) (op_neD (by omega)) (nobehind _ (by decide) (by decide)) ha hb rfl rfl fun G H v u x y z Q e hx hy hz q => by
    cases hz
    refine ⟨enc x, enc y, dq_dp (dq_mono e hx), dq_dp (dq_mono e hy), shaped_enc hd x, shaped_enc hd y, ?_⟩
    rw [EqE.eqv]
    exact q
theorem XC.eqS {ma mb : M αs Str} (ha : XE X Γ a (RT.dat X.K Str) ma) (hb : XE X Γ b (RT.dat X.K Str) mb) : XC X Γ .Eq a b (m2 ieq ma mb) :=
  .bin (r := rEq) op_eq (nobehind _ (by decide) (by decide)) ha hb rfl rfl fun G H v u x y z Q e hx hy hz q => by
    cases hz
    cases dq_str hx; cases dq_str hy
    refine ⟨rfl, ?_⟩
    have h : decide (V.str x = V.str y) = decide (x = y) := by simp
    rw [h]; exact q
theorem XC.neS {ma mb : M αs Str} (ha : XE X Γ a (RT.dat X.K Str) ma) (hb : XE X Γ b (RT.dat X.K Str) mb) : XC X Γ .NotEq a b (m2 ine ma mb) :=
  .bin (r := rNe) op_ne (nobehind _ (by decide) (by decide)) ha hb rfl rfl fun G H v u x y z Q e hx hy hz q => by
    cases hz
    cases dq_str hx; cases dq_str hy
    refine ⟨rfl, ?_⟩
    have h : decide (V.str x = V.str y) = decide (x = y) := by simp
    rw [h]; exact q
theorem any_eqv [Enc α] [DecidableEq α] [EqE α] (x : α) : ∀ xs : List α, ((xs.map enc).any fun z => PyData.eqv z (enc x)) = decide (x ∈ xs)
  | [] => by simp
  | y :: ys => by
    rw [List.map_cons, List.any_cons, any_eqv x ys, EqE.eqv]
    by_cases h : y = x
    · subst h; simp
    · have h' : ¬ x = y := fun e => h e.symm
      simp [h, h']
theorem XC.isin [Enc α] [DecidableEq α] [EqE α] [Lay α] {ma : M αs α} {mb : M αs (List α)} (ha : XE X Γ a (RT.dat X.K α) ma) (hb : XE X Γ b (RT.dat X.K (List α)) mb) (hu : X.A.units + 65 < cLine) (hm : behindInMarks .In b = false := by rfl) (hd : Lay.dep α + 1 ≤ 64 := by decide) :
    XC X Γ .In a b (m2 isin ma mb) :=
  .bin (r := rInD X.K) (op_inD hu) hm ha hb rfl rfl fun G H v u x y z Q e hx hy hz q => by
    cases hz
    refine ⟨enc x, y.map enc, dq_dp (dq_mono e hx), dq_dp (dq_mono e hy), shaped_enc (Nat.le_of_succ_le hd) x, shaped_enc (α := List α) hd y, ?_⟩
    rw [any_eqv]
    exact q
theorem XC.notin [Enc α] [DecidableEq α] [EqE α] [Lay α] {ma : M αs α} {mb : M αs (List α)} (ha : XE X Γ a (RT.dat X.K α) ma) (hb : XE X Γ b (RT.dat X.K (List α)) mb) (hu : X.A.units + 65 < cLine) (hm : behindInMarks .NotIn b = false := by rfl) (hd : Lay.dep α + 1 ≤ 64 := by decide) :
    XC X Γ .NotIn a b (m2 notin ma mb) :=
  .bin (r := rNotInD X.K) (op_notInD hu) hm ha hb rfl rfl fun G H v u x y z Q e hx hy hz q => by
    cases hz
    refine ⟨enc x, y.map enc, dq_dp (dq_mono e hx), dq_dp (dq_mono e hy), shaped_enc (Nat.le_of_succ_le hd) x, shaped_enc (α := List α) hd y, ?_⟩
    rw [any_eqv]
    exact q
/-- i < j < k and its like -/
def chn (f g : Int → Int → Option Bool) (m n l : M αs Int) : M αs Bool := fun s => (m s).bind fun p => (n p.2).bind fun q => (f p.1 q.1).bind fun c => if c = true then (l q.2).bind fun r => (g q.1 r.1).bind fun d => some (d, r.2) else some (false, q.2)

/-! ### items -/
theorem all2_at {P : V → α → Prop} {vs : List V} {xs : List α} {i : Int} {y : α} (h : All2 P vs xs) (e : atI xs i = some y) : ∃ v, atI vs i = some v ∧ P v y := by
  unfold atI at e ⊢
  obtain ⟨j, h1, h2⟩ := bindE e
  rw [h.len, h1]
  exact h.get h2
theorem XE.idx [Enc α] {ma : M αs (List α)} {mb : M αs Int} (ha : XE X Γ a (RT.dat X.K (List α)) ma) (hb : XE X Γ b (RT.dat X.K Int) mb) (hs : PlainIx b := by exact fun _ _ => rfl) : XE X Γ (.Subscript a b pos) (RT.dat X.K α) (m2 idx ma mb) :=
  .bin (r := rIxL X.K) (pe_ix ix_list pe_w pe_w hs) ha hb rfl rfl fun G H v u x y z Q e hx hy hz q => by
    obtain ⟨p, vs, rfl, hp, k⟩ := dq_list hx
    cases dq_int hy
    obtain ⟨w, h1, h2⟩ := all2_at k ((idx_eq _ _).symm.trans hz)
    exact ⟨p, vs, y, w, rfl, rfl, SqL.of (e _ _ hp), h1, here (z := z) e h2 q⟩
theorem XE.fst [Enc α] [Enc β] {ma : M αs (α × β)} {j} {p2 : Pos} (ha : XE X Γ a (RT.dat X.K (α × β)) ma) : XE X Γ (.Subscript a (.Constant (.int 0) j p2) pos) (RT.dat X.K α) (m1 fst' ma) :=
  .un (r := fun v H Q => rIxT X.K v (.int 0) H Q) (pe_ix ix_tup pe_w pe_int fun _ _ => rfl) ha rfl fun G H v x z Q e hx hz q => by
    cases hz
    obtain ⟨p, v1, v2, rfl, hp, h1, h2⟩ := dq_pair hx
    exact ⟨p, [v1, v2], 0, v1, rfl, rfl, e.t hp, rfl, here (z := x.1) e h1 q⟩
theorem XE.snd [Enc α] [Enc β] {ma : M αs (α × β)} {j} {p2 : Pos} (ha : XE X Γ a (RT.dat X.K (α × β)) ma) : XE X Γ (.Subscript a (.Constant (.int 1) j p2) pos) (RT.dat X.K β) (m1 snd' ma) :=
  .un (r := fun v H Q => rIxT X.K v (.int 1) H Q) (pe_ix ix_tup pe_w pe_int fun _ _ => rfl) ha rfl fun G H v x z Q e hx hz q => by
    cases hz
    obtain ⟨p, v1, v2, rfl, hp, h1, h2⟩ := dq_pair hx
    exact ⟨p, [v1, v2], 1, v2, rfl, rfl, e.t hp, rfl, here (z := x.2) e h2 q⟩

/-! ### displays -/
theorem XE.pair [Enc α] [Enc β] {ma : M αs α} {mb : M αs β} {k : Nat} (ha : XE X Γ a (RT.dat X.K α) ma) (hb : XE X Γ b (RT.dat X.K β) mb) (hp : PA X [a, b] (tCons (wE X a) (tCons (wE X b) tNil)) := by exact pa_cons pe_w (pa_cons pe_w pa_nil)) : XE X Γ (.Tuple [a, b] k pos) (RT.dat X.K (α × β)) (m2 pair ma mb) :=
  .bin (r := fun v u H Q => 2 ≤ sizeLine ∧ ∀ p, H p = none → Q (.ref p) (upd H p (.tup [v, u]))) (pe_tup hp) ha hb rfl rfl fun G H v u x y z Q e hx hy hz q => by
    cases hz
    refine ⟨by decide, fun p hp => ?_⟩
    have al := Al.kn e (o := .tup [v, u]) hp
    exact q _ _ _ (fun _ => False) al (show Dq X.K _ _ (.tuple [enc x, enc y]) from .tup (SqT.of upd_same) (.cons (dq_mono al.g hx) (.cons (dq_mono al.g hy) .nil))) newB0
theorem XE.trip [Enc α] [Enc β] [Enc γ] {ma : M αs α} {mb : M αs β} {mc : M αs γ} {k : Nat} (ha : XE X Γ a (RT.dat X.K α) ma) (hb : XE X Γ b (RT.dat X.K β) mb) (hc : XE X Γ c (RT.dat X.K γ) mc)
    (hp : PA X [a, b, c] (tCons (wE X a) (tCons (wE X b) (tCons (wE X c) tNil))) := by exact pa_cons pe_w (pa_cons pe_w (pa_cons pe_w pa_nil))) : XE X Γ (.Tuple [a, b, c] k pos) (RT.dat X.K (T3 α β γ)) (m3 trip ma mb mc) :=
  .tri (r := fun v u w H Q => 3 ≤ sizeLine ∧ ∀ p, H p = none → Q (.ref p) (upd H p (.tup [v, u, w]))) (pe_tup hp) ha hb hc rfl rfl rfl fun G H v u w x y t z Q e hx hy ht hz q => by
    cases hz
    refine ⟨by decide, fun p hp => ?_⟩
    have al := Al.kn e (o := .tup [v, u, w]) hp
    exact q _ _ _ (fun _ => False) al (show Dq X.K _ _ (.tuple [enc x, enc y, enc t]) from .tup (SqT.of upd_same) (.cons (dq_mono al.g hx) (.cons (dq_mono al.g hy) (.cons (dq_mono al.g ht) .nil)))) newB0
/-- a row of expressions of one kind -/
def XL (X : Cx) {αs : List Type} (Γ : RTs X.K αs) (es : List Expr) {α : Type} [Enc α] (m : M αs (List α)) : Prop :=
  ∀ (C : C0) (s : Env αs) (σ : L2.St) (G H : Hp) (o : Addr → Option Nat), Ok C Γ s σ G H o → ∀ (x : List α) (s' : Env αs), m s = some (x, s') → ∀ Q : List V → Hp → Prop,
    (∀ (vs : List V) (G' H' : Hp) (o' : Addr → Option Nat), Ok C Γ s' σ G' H' o' → Ex G G' → Kp Γ s s' → All2 (fun v x => Dq X.K G' v (enc x)) vs x → Q vs H') → wA X es σ H Q
theorem XL.nil [Enc α] : XL X Γ [] (mC ([] : List α)) := by
  intro C s σ G H o k x s' hm Q q
  cases hm
  exact wA_of pa_nil (q [] G H o k (Ex.refl _) .refl trivial)
def consO {α : Type} (x : α) (xs : List α) : Option (List α) := some (x :: xs)
theorem XL.cons [Enc α] {es : List Expr} {ma : M αs α} {ml : M αs (List α)} (ha : XE X Γ e (RT.dat X.K α) ma) (hl : XL X Γ es ml) (hs : starEach (e :: es) X.env = (false, eval e X.env) :: starEach es X.env := by rfl) : XL X Γ (e :: es) (m2 consO ma ml) := by
  intro C s σ G H o k z s' hm Q q
  obtain ⟨x, s1, xs, h1, h2, h3⟩ := m2E hm
  cases h3
  refine wA_of (pa_cons pe_w pa_w hs) ?_
  refine ha C s σ G H o k x s1 h1 _ fun v G1 H1 o1 B k1 g1 kp r1 t1 => ?_
  refine hl C s1 σ G1 H1 o1 k1 xs s' h2 _ fun vs G2 H2 o2 k2 g2 kp2 r2 => ?_
  exact q _ G2 H2 o2 k2 (g1.trans g2) (kp.trans kp2) ⟨dq_mono g2 r1, r2⟩
noncomputable def lstO {α : Type} : List α → Option (List α) := (Seal fun (xs : List α) => if xs.length ≤ 1000000 then some xs else none).1
theorem lstO_eq {α : Type} (xs : List α) : lstO xs = if xs.length ≤ 1000000 then some xs else none := by unfold lstO; rw [(Seal _).2]
theorem XE.lst [Enc α] [PureE α] {es : List Expr} {ml : M αs (List α)} (hl : XL X Γ es ml) : XE X Γ (.List es pos) (RT.own X.K α) (m1 lstO ml) := by
  intro C s σ G H o k z s' hm Q q
  obtain ⟨xs, h1, h2⟩ := m1E hm
  rw [lstO_eq] at h2
  obtain ⟨hz, rfl⟩ := ite_some h2
  refine wE_of (pe_lst pa_w) ?_
  refine hl C s σ G H o k _ s' h1 _ fun vs G1 H1 o1 k1 g1 kp r1 => ?_
  refine ⟨by rw [r1.len]; exact Nat.le_trans hz (by decide), fun p hp => ?_⟩
  have al := Al.my k1.gh (o := .lst vs) hp
  refine q (.ref p) G1 _ o1 (fun a => a = p) (k1.al al) g1 kp ⟨p, vs, rfl, rfl, upd_same, r1⟩ (NewB.tmp k1 fun a ha => ?_)
  subst ha
  refine ⟨hp, ?_, _, upd_same, rfl⟩
  cases h : G1 a with
  | none => rfl
  | some u => rw [k1.gh a u h] at hp; cases hp

/-! ### calls of what is built in -/
section
variable {x : Str} {p : Pos}
theorem XE.len [Enc α] {ma : M αs (List α)} (hg : Gl X "len") (hm : X.mg "len" = none) (ha : XE X Γ a (RT.dat X.K (List α)) ma)
    (he : starEach [a] X.env = [(false, eval a X.env)] := by rfl) : XE X Γ (.Call (.Name "len" p) [a] [] pos) (RT.dat X.K Int) (m1 ilen ma) :=
  .un (r := fun v H Q => ∃ p ys, [v] = [V.ref p] ∧ (SqL X.K H p ys ∨ SqT X.K H p ys) ∧ Q (.int ys.length) H) (pe_callB call_len_seq hg hm PySem.boot_len (pa_cons pe_w pa_nil he) (he := he)) ha rfl fun G H v x z Q e hx hz q => by
    cases hz
    obtain ⟨p, vs, rfl, hp, k⟩ := dq_list hx
    exact ⟨p, vs, rfl, .inl (SqL.of (e _ _ hp)), by rw [k.len]; exact here (z := (x.length : Int)) e (.int _) q⟩
theorem XE.list [Enc α] [PureE α] {ma : M αs (List α)} (hg : Gl X "list") (hm : X.mg "list" = none) (ha : XE X Γ a (RT.dat X.K (List α)) ma)
    (he : starEach [a] X.env = [(false, eval a X.env)] := by rfl) : XE X Γ (.Call (.Name "list" p) [a] [] pos) (RT.own X.K α) (m1 copyl ma) :=
  .un (r := fun v H Q => ∃ p ys, [v] = [V.ref p] ∧ (SqL X.K H p ys ∨ SqT X.K H p ys) ∧ ∀ l, H l = none → Q (.ref l) (upd H l (.lst ys))) (pe_callTy call_list_of hg hm (by decide +kernel) (pa_cons pe_w pa_nil he) (he := he)) ha rfl fun G H v x z Q e hx hz q => by
    cases hz
    obtain ⟨p, vs, rfl, hp, k⟩ := dq_list hx
    refine ⟨p, vs, rfl, .inl (SqL.of (e _ _ hp)), fun l hl => ?_⟩
    refine q (.ref l) G _ (fun a => a = l) (Al.my e hl) ⟨l, vs, rfl, rfl, upd_same, k⟩ fun a ha => ?_
    subst ha
    refine ⟨hl, ?_, _, upd_same, rfl⟩
    cases h : G a with
    | none => rfl
    | some u => rw [e a u h] at hl; cases hl
theorem XE.intOf {ma : M αs Int} (hg : Gl X "int") (hm : X.mg "int" = none) (ha : XE X Γ a (RT.dat X.K Int) ma)
    (he : starEach [a] X.env = [(false, eval a X.env)] := by rfl) : XE X Γ (.Call (.Name "int" p) [a] [] pos) (RT.dat X.K Int) (m1 idt ma) :=
  .un (r := fun v H Q => (∃ i, [v] = [V.int i] ∧ Q (.int i) H) ∨ ∃ k, [v] = [V.bl k] ∧ Q (.int (if k then 1 else 0)) H) (pe_callTy call_int1 hg hm (by decide +kernel) (pa_cons pe_w pa_nil he) (he := he)) ha rfl fun G H v x z Q e hx hz q => by
    cases hz
    cases dq_int hx
    exact .inl ⟨x, rfl, here (z := x) e (.int _) q⟩
theorem XE.abs {ma : M αs Int} (hg : Gl X "abs") (hm : X.mg "abs" = none) (ha : XE X Γ a (RT.dat X.K Int) ma)
    (he : starEach [a] X.env = [(false, eval a X.env)] := by rfl) : XE X Γ (.Call (.Name "abs" p) [a] [] pos) (RT.dat X.K Int) (m1 iabs ma) :=
  .un (r := fun v H Q => ∃ i, [v] = [V.int i] ∧ Q (.int (if i < 0 then -i else i)) H) (pe_callB call_abs hg hm (by decide +kernel) (pa_cons pe_w pa_nil he) (he := he)) ha rfl fun G H v x z Q e hx hz q => by
    cases hz
    cases dq_int hx
    exact ⟨x, rfl, here (z := if x < 0 then -x else x) e (.int _) q⟩
theorem XE.max2 {ma mb : M αs Int} (hc : X.calm = true) (hg : Gl X "max") (hm : X.mg "max" = none) (ha : XE X Γ a (RT.dat X.K Int) ma) (hb : XE X Γ b (RT.dat X.K Int) mb)
    (he : starEach [a, b] X.env = [(false, eval a X.env), (false, eval b X.env)] := by rfl) (he2 : starEach [b] X.env = [(false, eval b X.env)] := by rfl) : XE X Γ (.Call (.Name "max" p) [a, b] [] pos) (RT.dat X.K Int) (m2 imax ma mb) :=
  .bin (r := fun v u H Q => ∃ i j, [v, u] = [V.int i, .int j] ∧ Q (.int (if j > i then j else i)) H) (pe_callB (call_max2 hc) hg hm (by decide +kernel) (pa_cons pe_w (pa_cons pe_w pa_nil he2) (by rw [he, he2])) (he := by rw [he, he2])
    (hpl := by rw [he2]; rfl)) ha hb rfl rfl fun G H v u x y z Q e hx hy hz q => by
    cases hz
    cases dq_int hx
    cases dq_int hy
    exact ⟨x, y, rfl, here (z := if y > x then y else x) e (.int _) q⟩
theorem XE.min2 {ma mb : M αs Int} (hc : X.calm = true) (hg : Gl X "min") (hm : X.mg "min" = none) (ha : XE X Γ a (RT.dat X.K Int) ma) (hb : XE X Γ b (RT.dat X.K Int) mb)
    (he : starEach [a, b] X.env = [(false, eval a X.env), (false, eval b X.env)] := by rfl) (he2 : starEach [b] X.env = [(false, eval b X.env)] := by rfl) : XE X Γ (.Call (.Name "min" p) [a, b] [] pos) (RT.dat X.K Int) (m2 imin ma mb) :=
  .bin (r := fun v u H Q => ∃ i j, [v, u] = [V.int i, .int j] ∧ Q (.int (if j < i then j else i)) H) (pe_callB (call_min2 hc) hg hm (by decide +kernel) (pa_cons pe_w (pa_cons pe_w pa_nil he2) (by rw [he, he2])) (he := by rw [he, he2])
    (hpl := by rw [he2]; rfl)) ha hb rfl rfl fun G H v u x y z Q e hx hy hz q => by
    cases hz
    cases dq_int hx
    cases dq_int hy
    exact ⟨x, y, rfl, here (z := if y < x then y else x) e (.int _) q⟩
end
end
end Sm
/-! S5: tests, statements. -/
namespace Sm
open PySem PySem.Spec L2
open Enc (enc)

section
variable {X : Cx} {αs : List Type} {Γ Γ1 Γ2 Γ' : RTs X.K αs} {α β γ ρ : Type} {e a b c : Expr} {pos : Pos}
/-! ### tests -/
theorem XT.val {m : M αs Bool} (h : XE X Γ e (RT.dat X.K Bool) m) (he : ∀ whole, isTrue e X.env whole = (do let v ← whole; standAt e.pos; holding [v] (truthy v)) := by intro _; rfl) : XT X Γ e m := by
  intro C s σ G H o k z s' hm Q q
  refine wT_of (pt_val pe_w he) ?_
  refine h C s σ G H o k z s' hm _ fun v G1 H1 o1 B k1 g1 kp r1 t1 => ?_
  cases dq_bl r1
  exact ⟨z, rfl, q G1 H1 o1 k1 g1 kp⟩
theorem XT.not {m : M αs Bool} (h : XT X Γ e m) : XT X Γ (.UnaryOp .Not e pos) (m1 bnot m) := by
  intro C s σ G H o k z s' hm Q q
  obtain ⟨x, h1, h2⟩ := m1E hm
  cases h2
  exact wT_of (pt_not pt_w) (h C s σ G H o k x s' h1 _ fun G1 H1 o1 k1 g1 kp => q G1 H1 o1 k1 g1 kp)
def mAnd (m n : M αs Bool) : M αs Bool := fun s => (m s).bind fun p => if p.1 = true then n p.2 else some (false, p.2)
def mOr (m n : M αs Bool) : M αs Bool := fun s => (m s).bind fun p => if p.1 = true then some (true, p.2) else n p.2
theorem XT.ofW {m : M αs Bool} (h : XW X Γ e m) : XT X Γ e m := fun C s σ G H o k z s' hm Q q => wT_of_W (h C s σ G H o k z s' hm Q q)
theorem XW.and1 {m : M αs Bool} (h : XT X Γ a m) : XW X Γ (.BoolOp .And [a] pos) m := fun C s σ G H o k z s' hm Q q => wW_of (pw_and1 pt_w) (h C s σ G H o k z s' hm Q q)
theorem XW.or1 {m : M αs Bool} (h : XT X Γ a m) : XW X Γ (.BoolOp .Or [a] pos) m := fun C s σ G H o k z s' hm Q q => wW_of (pw_or1 pt_w) (h C s σ G H o k z s' hm Q q)
theorem XW.and {m n : M αs Bool} {rest : List Expr} (ha : XT X Γ a m) (hb : XW X Γ (.BoolOp .And (b :: rest) pos) n) : XW X Γ (.BoolOp .And (a :: b :: rest) pos) (mAnd m n) := by
  intro C s σ G H o k z s' hm Q q
  obtain ⟨⟨x, s1⟩, h1, h2⟩ := bindE hm
  refine wW_of (pw_and pt_w pw_w) ?_
  refine ha C s σ G H o k x s1 h1 _ fun G1 H1 o1 k1 g1 kp => ?_
  cases x with
  | true => exact hb C s1 σ G1 H1 o1 k1 z s' h2 Q fun G2 H2 o2 k2 g2 kp2 => q G2 H2 o2 k2 (g1.trans g2) (kp.trans kp2)
  | false =>
    cases h2
    exact q G1 H1 o1 k1 g1 kp
theorem XW.or {m n : M αs Bool} {rest : List Expr} (ha : XT X Γ a m) (hb : XW X Γ (.BoolOp .Or (b :: rest) pos) n) : XW X Γ (.BoolOp .Or (a :: b :: rest) pos) (mOr m n) := by
  intro C s σ G H o k z s' hm Q q
  obtain ⟨⟨x, s1⟩, h1, h2⟩ := bindE hm
  refine wW_of (pw_or pt_w pw_w) ?_
  refine ha C s σ G H o k x s1 h1 _ fun G1 H1 o1 k1 g1 kp => ?_
  cases x with
  | false => exact hb C s1 σ G1 H1 o1 k1 z s' h2 Q fun G2 H2 o2 k2 g2 kp2 => q G2 H2 o2 k2 (g1.trans g2) (kp.trans kp2)
  | true =>
    cases h2
    exact q G1 H1 o1 k1 g1 kp
/-- .. as values -/
theorem XE.one {op} {R : RT X.K β} {m : M αs β} (h : XE X Γ a R m) : XE X Γ (.BoolOp op [a] pos) R m := fun C s σ G H o k z s' hm Q q => wE_of (pe_one pe_w) (h C s σ G H o k z s' hm Q q)
theorem XE.and {m n : M αs Bool} {rest : List Expr} (ha : XE X Γ a (RT.dat X.K Bool) m) (hb : XE X Γ (.BoolOp .And (b :: rest) pos) (RT.dat X.K Bool) n) : XE X Γ (.BoolOp .And (a :: b :: rest) pos) (RT.dat X.K Bool) (mAnd m n) := by
  intro C s σ G H o k z s' hm Q q
  obtain ⟨⟨x, s1⟩, h1, h2⟩ := bindE hm
  refine wE_of (pe_and pe_w pe_w) ?_
  refine ha C s σ G H o k x s1 h1 _ fun v G1 H1 o1 B k1 g1 kp r1 t1 => ?_
  cases dq_bl r1
  cases x with
  | true => exact ⟨true, rfl, hb C s1 σ G1 H1 o1 k1 z s' h2 Q fun v G2 H2 o2 B k2 g2 kp2 r t => q v G2 H2 o2 B k2 (g1.trans g2) (kp.trans kp2) r t⟩
  | false =>
    cases h2
    exact ⟨false, rfl, q _ G1 H1 o1 (fun _ => False) k1 g1 kp (show Dq X.K G1 (.bl false) (.bool false) from .bl _) tmp0⟩
theorem XE.or {m n : M αs Bool} {rest : List Expr} (ha : XE X Γ a (RT.dat X.K Bool) m) (hb : XE X Γ (.BoolOp .Or (b :: rest) pos) (RT.dat X.K Bool) n) : XE X Γ (.BoolOp .Or (a :: b :: rest) pos) (RT.dat X.K Bool) (mOr m n) := by
  intro C s σ G H o k z s' hm Q q
  obtain ⟨⟨x, s1⟩, h1, h2⟩ := bindE hm
  refine wE_of (pe_or pe_w pe_w) ?_
  refine ha C s σ G H o k x s1 h1 _ fun v G1 H1 o1 B k1 g1 kp r1 t1 => ?_
  cases dq_bl r1
  cases x with
  | false => exact ⟨false, rfl, hb C s1 σ G1 H1 o1 k1 z s' h2 Q fun v G2 H2 o2 B k2 g2 kp2 r t => q v G2 H2 o2 B k2 (g1.trans g2) (kp.trans kp2) r t⟩
  | true =>
    cases h2
    exact ⟨true, rfl, q _ G1 H1 o1 (fun _ => False) k1 g1 kp (show Dq X.K G1 (.bl true) (.bool true) from .bl _) tmp0⟩
theorem XE.not {m : M αs Bool} (h : XE X Γ e (RT.dat X.K Bool) m) : XE X Γ (.UnaryOp .Not e pos) (RT.dat X.K Bool) (m1 bnot m) :=
  .un (r := fun x H Q => ∃ c, x = V.bl c ∧ Q (.bl (!c)) H) (pe_not pe_w) h rfl fun G H v x z Q e hx hz q => by
    cases hz
    cases dq_bl hx
    exact ⟨x, rfl, here (z := !x) e (.bl _) q⟩
theorem XE.ite {R : RT X.K β} {mc : M αs Bool} {m n : M αs β} (hc : XT X Γ c mc) (ha : XE X Γ a R m) (hb : XE X Γ b R n) : XE X Γ (.IfExp c a b pos) R (mIte mc m n) := by
  intro C s σ G H o k z s' hm Q q
  obtain ⟨⟨x, s1⟩, h1, h2⟩ := bindE hm
  refine wE_of (pe_ifExp pt_w pe_w pe_w) ?_
  refine hc C s σ G H o k x s1 h1 _ fun G1 H1 o1 k1 g1 kp => ?_
  cases x with
  | true => exact ha C s1 σ G1 H1 o1 k1 z s' h2 Q fun v G2 H2 o2 B k2 g2 kp2 r t => q v G2 H2 o2 B k2 (g1.trans g2) (kp.trans kp2) r t
  | false => exact hb C s1 σ G1 H1 o1 k1 z s' h2 Q fun v G2 H2 o2 B k2 g2 kp2 r t => q v G2 H2 o2 B k2 (g1.trans g2) (kp.trans kp2) r t

/-! ### statements -/
inductive Ctl (ρ : Type) where
  | nx | bk | ct | rt (r : ρ)
abbrev MS (αs : List Type) (ρ : Type) := Env αs → Option (Ctl ρ × Env αs)
/-- what is wanted at the ends of a body -/
structure Pk (K : Fr) (αs : List Type) (ρ : Type) where
  R : RT K ρ
  Γr : RTs K αs
  Γl : RTs K αs
def Fin {K : Fr} (C : C0) {αs : List Type} {ρ : Type} (P : Pk K αs ρ) (Γ : RTs K αs) (D : Ends) (c : Ctl ρ) (s : Env αs) : Prop := match c with
  | .nx => ∀ (σ : L2.St) (G H : Hp) (o : Addr → Option Nat), Ok C Γ s σ G H o → D.nx σ H
  | .bk => ∀ (σ : L2.St) (G H : Hp) (o : Addr → Option Nat), Ok C P.Γl s σ G H o → D.bk σ H
  | .ct => ∀ (σ : L2.St) (G H : Hp) (o : Addr → Option Nat), Ok C P.Γl s σ G H o → D.ct σ H
  | .rt r => ∀ (σ : L2.St) (v : V) (G H : Hp) (o : Addr → Option Nat) (B : Addr → Prop), Ok C P.Γr s σ G H o → P.R.rel G H v r B → Tmp C B G H o → D.rt v H
def XS (X : Cx) {αs : List Type} {ρ : Type} (P : Pk X.K αs ρ) (Γ Γ' : RTs X.K αs) (st : Stmt) (m : MS αs ρ) : Prop :=
  ∀ (C : C0) (s : Env αs) (σ : L2.St) (G H : Hp) (o : Addr → Option Nat), Ok C Γ s σ G H o → ∀ (c : Ctl ρ) (s' : Env αs), m s = some (c, s') → ∀ D : Ends, Fin C P Γ' D c s' → wS X st D σ H
def XSs (X : Cx) {αs : List Type} {ρ : Type} (P : Pk X.K αs ρ) (Γ Γ' : RTs X.K αs) (st : List Stmt) (m : MS αs ρ) : Prop :=
  ∀ (C : C0) (s : Env αs) (σ : L2.St) (G H : Hp) (o : Addr → Option Nat), Ok C Γ s σ G H o → ∀ (c : Ctl ρ) (s' : Env αs), m s = some (c, s') → ∀ D : Ends, Fin C P Γ' D c s' → wSs X st D σ H
def sSkip : MS αs ρ := fun s => some (.nx, s)
def sSeq (m n : MS αs ρ) : MS αs ρ := fun s => (m s).bind fun p => match p.1 with
  | .nx => n p.2
  | .bk => some (.bk, p.2)
  | .ct => some (.ct, p.2)
  | .rt r => some (.rt r, p.2)
def sAsg (x : Var αs α) (m : M αs α) : MS αs ρ := fun s => (m s).bind fun p => some (.nx, x.set (some p.1) p.2)
def sRet (m : M αs ρ) : MS αs ρ := fun s => (m s).bind fun p => some (.rt p.1, p.2)
def sIf (c : M αs Bool) (m n : MS αs ρ) : MS αs ρ := fun s => (c s).bind fun p => if p.1 = true then m p.2 else n p.2
def sDrop (m : M αs α) : MS αs ρ := fun s => (m s).bind fun p => some (.nx, p.2)
def sBk : MS αs ρ := fun s => some (.bk, s)
def sCt : MS αs ρ := fun s => some (.ct, s)
def sFail : MS αs ρ := fun _ => none
variable {P : Pk X.K αs ρ} {st : Stmt} {rest sts : List Stmt}
theorem XSs.nil : XSs X P Γ Γ [] sSkip := by
  intro C s σ G H o k c s' hm D f
  cases hm
  exact wSs_of pss_nil (f σ G H o k)
theorem XSs.cons {m n : MS αs ρ} (h1 : XS X P Γ Γ1 st m) (h2 : XSs X P Γ1 Γ2 rest n) : XSs X P Γ Γ2 (st :: rest) (sSeq m n) := by
  intro C s σ G H o k c s' hm D f
  obtain ⟨⟨c1, s1⟩, e1, e2⟩ := bindE hm
  refine wSs_of (pss_cons ps_w pss_w) ?_
  refine h1 C s σ G H o k c1 s1 e1 _ ?_
  cases c1 with
  | nx => exact fun σ' G' H' o' k' => h2 C s1 σ' G' H' o' k' c s' e2 D f
  | bk => cases e2; exact f
  | ct => cases e2; exact f
  | rt r => cases e2; exact f
theorem XSs.one {m : MS αs ρ} (h1 : XS X P Γ Γ1 st m) : XSs X P Γ Γ1 [st] m := by
  intro C s σ G H o k c s' hm D f
  exact wSs_of (pss_one ps_w) (h1 C s σ G H o k c s' hm D f)
theorem XS.never : XS X P Γ Γ1 st (sFail : MS αs ρ) := by
  intro C s σ G H o k c s' hm D f
  cases hm
theorem XSs.never : XSs X P Γ Γ1 sts (sFail : MS αs ρ) := by
  intro C s σ G H o k c s' hm D f
  cases hm
theorem XS.pass : XS X P Γ Γ (.Pass pos) (sSkip : MS αs ρ) := by
  intro C s σ G H o k c s' hm D f
  cases hm
  exact wS_of ps_pass (f σ G H o k)
theorem XS.brk (h : Γ = P.Γl) : XS X P Γ Γ1 (.Break pos) (sBk : MS αs ρ) := by
  subst h
  intro C s σ G H o k c s' hm D f
  cases hm
  exact wS_of ps_break (f σ G H o k)
theorem XS.cont (h : Γ = P.Γl) : XS X P Γ Γ1 (.Continue pos) (sCt : MS αs ρ) := by
  subst h
  intro C s σ G H o k c s' hm D f
  cases hm
  exact wS_of ps_continue (f σ G H o k)
theorem XS.ite {mc : M αs Bool} {m n : MS αs ρ} {x y : List Stmt} (hc : XT X Γ c mc) (ha : XSs X P Γ Γ1 x m) (hb : XSs X P Γ Γ1 y n) : XS X P Γ Γ1 (.If c x y pos) (sIf mc m n) := by
  intro C s σ G H o k cc s' hm D f
  obtain ⟨⟨t, s1⟩, e1, e2⟩ := bindE hm
  refine wS_of (ps_if pt_w pss_w pss_w) ?_
  refine hc C s σ G H o k t s1 e1 _ fun G1 H1 o1 k1 g1 kp => ?_
  cases t with
  | true => exact ha C s1 σ G1 H1 o1 k1 cc s' e2 D f
  | false => exact hb C s1 σ G1 H1 o1 k1 cc s' e2 D f
theorem XS.asg {x : Var αs α} {R : RT X.K α} {m : M αs α} {n : Str} {pos' : Pos} (he : XE X Γ e R m) (hN : X.N.Nodup) (hi : X.N[x.idx]? = some n) (hx : Loc X.env.scope n)
    (hs : swapsWith e (some (.Name n pos')) pos.line X.env = pure false := by rfl) (hf : X.fn n = true ∨ X.env.scope.names.lookup n = some .local := by first | exact .inl rfl | exact .inr rfl) :
    XS X P Γ (x.setR R Γ) (.Assign [.Name n pos'] e pos) (sAsg x m) := by
  intro C s σ G H o k c s' hm D f
  obtain ⟨⟨y, s1⟩, e1, e2⟩ := bindE hm
  cases e2
  refine wS_of (ps_set hN hi hx pe_w hs hf) ?_
  refine he C s σ G H o k y s1 e1 _ fun v G1 H1 o1 B k1 g1 kp r t => ?_
  obtain ⟨o2, k2⟩ := k1.set x R r t
  exact f _ G1 H1 o2 k2
/-- forgetting -/
def Wk {K : Fr} : {αs : List Type} → RTs K αs → RTs K αs → Prop
  | [], _, _ => True
  | α :: _, Γ, Γ' => (Γ'.1 = Γ.1 ∨ Γ'.1 = RT.dead K α) ∧ Wk Γ.2 Γ'.2
theorem Wk.get {K : Fr} {αs : List Type} {Γ Γ' : RTs K αs} (h : Wk Γ Γ') {α : Type} (x : Var αs α) : x.rt Γ' = x.rt Γ ∨ x.rt Γ' = RT.dead K α := by
  induction x with
  | vz => exact h.1
  | vs x ih => exact ih h.2
theorem Ok.weak {C : C0} {s : Env αs} {σ : L2.St} {G H : Hp} {o : Addr → Option Nat} (k : Ok C Γ s σ G H o) (w : Wk Γ Γ') : Ok C Γ' s σ G H o := by
  refine ⟨k.g, k.gh, k.new, k.fr, k.dom, k.imm, k.own, k.len, fun α x y hy => ?_⟩
  obtain ⟨v, e, r⟩ := k.sl α x y hy
  refine ⟨v, e, ?_⟩
  rcases w.get x with h | h
  · rw [h]; exact r
  · rw [h]; exact trivial
theorem XSs.weak {m : MS αs ρ} (h : XSs X P Γ1 Γ2 sts m) (w : Wk Γ Γ1) : XSs X P Γ Γ2 sts m := fun C s σ G H o k => h C s σ G H o (k.weak w)
theorem XSs.to {m : MS αs ρ} (h : XSs X P Γ Γ1 sts m) (w : Wk Γ1 Γ2) : XSs X P Γ Γ2 sts m := fun C s σ G H o k c s' hm D f => h C s σ G H o k c s' hm D (by
  cases c with
  | nx => exact fun σ' G' H' o' k' => f σ' G' H' o' (k'.weak w)
  | bk => exact f
  | ct => exact f
  | rt r => exact f)
theorem XS.ret {m : M αs ρ} (he : XE X Γ e P.R m) (w : Wk Γ P.Γr) : XS X P Γ Γ1 (.Return (some e) pos) (sRet m) := by
  intro C s σ G H o k c s' hm D f
  obtain ⟨⟨y, s1⟩, e1, e2⟩ := bindE hm
  cases e2
  refine wS_of (ps_ret pe_w) ?_
  exact he C s σ G H o k y s1 e1 _ fun v G1 H1 o1 B k1 g1 kp r t => f σ v G1 H1 o1 B (k1.weak w) r t
/-- one's own value handed out -/
theorem XS.retV {x : Var αs ρ} {n : Str} {pos' : Pos} (hpe : PE X (.Name n pos') (tVar x.idx)) (hr : x.rt Γ = P.R) (w : Wk (x.setR (RT.dead _ _) Γ) P.Γr) : XS X P Γ Γ1 (.Return (some (.Name n pos')) pos) (sRet (mV x)) := by
  classical
  intro C s σ G H o k c s' hm D f
  obtain ⟨⟨y, s1⟩, e1, e2⟩ := bindE hm
  cases e2
  obtain ⟨y', h1, h⟩ := bindE e1
  cases h
  obtain ⟨v, e, r⟩ := k.sl ρ x y h1
  rw [hr] at r
  refine wS_of (ps_ret hpe) ⟨v, e, f σ v G H (fun a => if o a = some x.idx then none else o a) _ (Ok.weak ?_ w) r fun a ha => ?_⟩
  · refine ⟨k.g, k.gh, k.new, k.fr, k.dom, k.imm, fun a ha => ?_, k.len, Var.split x (fun z hz => ?_) fun β z hz u hu => ?_⟩
    · by_cases h : o a = some x.idx
      · simp [h] at ha
      · simp only [h, if_false] at ha; exact k.own a ha
    · obtain ⟨v', e', _⟩ := k.sl ρ x z hz
      refine ⟨v', e', ?_⟩
      rw [Var.rt_set]; exact trivial
    · obtain ⟨v', e', r'⟩ := k.sl β z u hu
      refine ⟨v', e', ?_⟩
      rw [Var.rt_ne x z _ _ hz]
      refine (z.rt Γ).wid r' fun a ha => ?_
      have ha' : o a = some z.idx := ha
      show (if o a = some x.idx then none else o a) = some z.idx
      rw [if_neg (by rw [ha']; exact fun e => hz (Option.some.inj e))]; exact ha'
  · have ha' : o a = some x.idx := ha
    obtain ⟨h1, h2, h3⟩ := k.own a (by rw [ha']; simp)
    exact ⟨by simp [ha'], h1, h2, h3⟩
theorem XS.drop {R : RT X.K α} {m : M αs α} (he : XE X Γ e R m) (hs : swapsWith e none pos.line X.env = pure false := by rfl) : XS X P Γ Γ (.Expr e pos) (sDrop m : MS αs ρ) := by
  intro C s σ G H o k c s' hm D f
  obtain ⟨⟨y, s1⟩, e1, e2⟩ := bindE hm
  cases e2
  refine wS_of (ps_expr pe_w hs) ?_
  exact he C s σ G H o k y s1 e1 _ fun v G1 H1 o1 B k1 g1 kp r t => f σ G1 H1 o1 k1
/-- what is one's own is shared from here on -/
theorem Ok.freeze {C : C0} {s : Env αs} {σ : L2.St} {G H : Hp} {o : Addr → Option Nat} (k : Ok C Γ s σ G H o) (x : Var αs α) : ∃ G' o', Ok C (x.setR (RT.sh (x.rt Γ)) Γ) s σ G' H o' ∧ Ex G G' := by
  classical
  have SG : ∀ a, o a = some x.idx → G a = none := fun a h => (k.own a (by rw [h]; simp)).1
  have ex1 : Ex G (fun a => if o a = some x.idx then H a else G a) := fun a ob e => by
    by_cases h : o a = some x.idx
    · rw [SG a h] at e; cases e
    · simp only [h, if_false]; exact e
  refine ⟨fun a => if o a = some x.idx then H a else G a, fun a => if o a = some x.idx then none else o a, ⟨k.g.trans ex1, fun a ob e => ?_, fun a nm h0 g0 => ?_, k.fr, k.dom, k.imm, fun a ha => ?_, k.len, Var.split x ?_ fun β y hy z hz => ?_⟩, ex1⟩
  · by_cases h : o a = some x.idx
    · simpa [h] using e
    · simp only [h, if_false] at e; exact k.gh a ob e
  · have h : o a ≠ some x.idx := fun h => by
      rcases (k.own a (by rw [h]; simp)).2.2 with q | q
      · exact nm q
      · exact h0 q
    simp only [h, if_false]
    exact k.new a nm h0 g0
  · by_cases h : o a = some x.idx
    · simp [h] at ha
    · simp only [h, if_false] at ha ⊢
      exact k.own a ha
  · intro z hz
    obtain ⟨v, e, r⟩ := k.sl α x z hz
    refine ⟨v, e, ?_⟩
    rw [Var.rt_set]
    exact (x.rt Γ).view r ex1 fun a ob ha hb => by
      have ha' : o a = some x.idx := ha
      simp only [ha', if_true]; exact hb
  · obtain ⟨v, e, r⟩ := k.sl β y z hz
    refine ⟨v, e, ?_⟩
    rw [Var.rt_ne x y _ _ hy]
    refine (y.rt Γ).wid ((y.rt Γ).grow r ex1 fun _ _ => rfl) fun a ha => ?_
    have ha' : o a = some y.idx := ha
    show (if o a = some x.idx then none else o a) = some y.idx
    rw [if_neg (by rw [ha']; exact fun e => hy (Option.some.inj e))]
    exact ha'
theorem XSs.freeze {m : MS αs ρ} (x : Var αs α) (h : XSs X P (x.setR (RT.sh (x.rt Γ)) Γ) Γ2 sts m) : XSs X P Γ Γ2 sts m := fun C s σ G H o k c s' hm D f => by
  obtain ⟨G1, o1, k1, _⟩ := k.freeze x
  exact h C s σ G1 H o1 k1 c s' hm D f
end
end Sm
/-! S6: loops, comprehensions, lists of one's own. -/
namespace Sm
open PySem PySem.Spec L2
open Enc (enc)

section
variable {K : Fr} {C : C0} {αs : List Type} {Γ Γ' : RTs K αs} {s s' : Env αs} {σ σ' : L2.St} {G H G' H' : Hp} {o o' : Addr → Option Nat} {B : Addr → Prop}
/-- the state as an entry of its own -/
abbrev reC (G H : Hp) (o : Addr → Option Nat) : C0 := ⟨G, H, fun a => o a ≠ none⟩
theorem Ok.re (k : Ok C Γ s σ G H o) : Ok (reC G H o) Γ s σ G H o :=
  ⟨Ex.refl _, k.gh, fun _ _ _ h => h, fun _ _ _ h => h, fun _ h => h, fun _ _ h _ => h, fun a ha => ⟨(k.own a ha).1, (k.own a ha).2.1, .inl ha⟩, k.len, k.sl⟩
theorem Ok.free (k : Ok C Γ s σ G H o) {a : Addr} (h : o a ≠ none ∨ H a = none) : C.M0 a ∨ C.H0 a = none := by
  rcases h with h | h
  · exact (k.own a h).2.2
  · right
    cases q : C.H0 a with
    | none => rfl
    | some u => exact absurd h (k.dom a (by rw [q]; simp))
theorem Ok.back (k : Ok C Γ s σ G H o) (k' : Ok (reC G H o) Γ' s' σ' G' H' o') : Ok C Γ' s' σ' G' H' o' := by
  have nm : ∀ a u, ¬ C.M0 a → C.H0 a = some u → ¬ (reC G H o).M0 a := fun a u n h z => by
    rcases (k.own a z).2.2 with q | q
    · exact n q
    · rw [q] at h; cases h
  refine ⟨k.g.trans k'.g, k'.gh, fun a n h0 g0 => ?_, fun a ob n h0 => k'.fr a ob (nm a ob n h0) (k.fr a ob n h0), fun a h0 => k'.dom a (k.dom a h0), fun a ob h0 i => k'.imm a ob (k.imm a ob h0 i) i, fun a ha => ?_, k'.len, k'.sl⟩
  · cases q : C.H0 a with
    | none => exact absurd q h0
    | some u => exact k'.new a (nm a u n q) (k.dom a h0) (k.new a n h0 g0)
  · obtain ⟨h1, h2, h3⟩ := k'.own a ha
    exact ⟨h1, h2, k.free h3⟩
theorem Tmp.back (k : Ok C Γ s σ G H o) (t : Tmp (reC G H o) B G' H' o') : Tmp C B G' H' o' := fun a ha => by
  obtain ⟨h1, h2, h3, h4⟩ := t a ha
  exact ⟨h1, h2, h3, k.free h4⟩
end

section
variable {X : Cx} {αs : List Type} {Γ Γ1 Γ2 Γ' Γt : RTs X.K αs} {α β γ ρ : Type} {e a b c tg iter : Expr} {pos : Pos}
/-! ### what is walked -/
def wI (X : Cx) (tg iter : Expr) : TI := fun σ H R => ∀ pins s, Inv X pins σ H s → wpAny (model X.prog X.w) X.A (eval iter X.env) (fun v s1 => wpAny (model X.prog X.w) X.A (pyIter v) (PIE X pins σ tg R) X.xe s1) X.xe s
theorem pi_w : PI X tg iter (wI X tg iter) := ⟨fun pins s _ _ _ I h => h pins s I⟩
theorem wI_of {wi : TI} {σ : L2.St} {H : Hp} {R : It → Hp → Prop} (h : PI X tg iter wi) (q : wi σ H R) : wI X tg iter σ H R := fun pins s I => h.run pins s σ H R I q
/-- an iterator over the items xs -/
structure Src {K : Fr} (G0 : Hp) (J : It) (R : RT K α) (xs : List α) : Prop where
  go : ∀ i y H, xs[i]? = some y → Ex G0 H → J.go i H
  stop : ∀ H, Ex G0 H → J.stop xs.length H
  yld : ∀ i y G H x H', xs[i]? = some y → Ex G0 G → Ex G H → J.yld i H x H' → ∃ G', Al G H G' H' ∧ R.shr G' x y
def XI (X : Cx) {αs : List Type} (Γ : RTs X.K αs) (tg iter : Expr) (R : RT X.K α) (m : M αs (List α)) : Prop :=
  ∀ (C : C0) (s : Env αs) (σ : L2.St) (G H : Hp) (o : Addr → Option Nat), Ok C Γ s σ G H o → ∀ (xs : List α) (s' : Env αs), m s = some (xs, s') → ∀ Rw : It → Hp → Prop,
    (∀ (J : It) (G' H' : Hp) (o' : Addr → Option Nat), Ok C Γ s' σ G' H' o' → Ex G G' → Kp Γ s s' → Src G' J R xs → Rw J H') → wI X tg iter σ H Rw
noncomputable def rng : Int → Option (List Int) := (Seal fun (n : Int) => if -(2 ^ 62) ≤ n ∧ n < 2 ^ 62 then some ((List.range n.toNat).map fun (i : Nat) => (i : Int)) else none).1
theorem rng_eq (n : Int) : rng n = if -(2 ^ 62) ≤ n ∧ n < 2 ^ 62 then some ((List.range n.toNat).map fun (i : Nat) => (i : Int)) else none := by unfold rng; rw [(Seal _).2]
noncomputable def rng2 : Int → Int → Option (List Int) := (Seal fun (a n : Int) => if -(2 ^ 62) ≤ a ∧ a < 2 ^ 62 ∧ -(2 ^ 62) ≤ n ∧ n < 2 ^ 62 then some ((List.range (n - a).toNat).map fun (i : Nat) => a + (i : Int)) else none).1
theorem rng2_eq (a n : Int) : rng2 a n = if -(2 ^ 62) ≤ a ∧ a < 2 ^ 62 ∧ -(2 ^ 62) ≤ n ∧ n < 2 ^ 62 then some ((List.range (n - a).toNat).map fun (i : Nat) => a + (i : Int)) else none := by unfold rng2; rw [(Seal _).2]
theorem src_range {K : Fr} {G : Hp} (lo : Int) (n : Nat) : Src G (Itr lo n) (RT.dat K Int) ((List.range n).map fun (i : Nat) => lo + (i : Int)) := by
  have at_ : ∀ (i : Nat) y, ((List.range n).map fun (i : Nat) => lo + (i : Int))[i]? = some y → i < n ∧ y = lo + (i : Int) := fun i y h => by
    rw [List.getElem?_map] at h
    cases q : (List.range n)[i]? with
    | none => rw [q] at h; cases h
    | some j =>
      rw [q] at h
      obtain ⟨h1, h2⟩ := List.getElem?_eq_some_iff.mp q
      have h3 : i < n := by simpa using h1
      have h4 : i = j := by simpa using h2
      subst h4
      exact ⟨h3, by simpa using h.symm⟩
  refine ⟨fun i y H h _ => (at_ i y h).1, fun H _ => ?_, fun i y G H x H' h _ e yl => ?_⟩
  · show n ≤ _
    rw [List.length_map, List.length_range]
    exact Nat.le_refl _
  · obtain ⟨rfl, rfl⟩ := yl
    obtain ⟨_, rfl⟩ := at_ i y h
    exact ⟨G, .refl e, .int _⟩
theorem XI.range1 {ma : M αs Int} {p : Pos} (hg : Gl X "range") (hm : X.mg "range" = none) (ha : XE X Γ a (RT.dat X.K Int) ma) (hs : starEach [a] X.env = [(false, eval a X.env)] := by rfl) :
    XI X Γ tg (.Call (.Name "range" p) [a] [] pos) (RT.dat X.K Int) (m1 rng ma) := by
  intro C s σ G H o k xs s' hm' Rw q
  obtain ⟨n, h1, h2⟩ := m1E hm'
  rw [rng_eq] at h2
  obtain ⟨hb, rfl⟩ := ite_some h2
  refine wI_of (pi_range1 hg hm (pa_cons pe_w pa_nil hs) hs) ?_
  refine ha C s σ G H o k n s' h1 _ fun v G1 H1 o1 B k1 g1 kp r t => ?_
  cases dq_int r
  refine ⟨n, rfl, hb.1, hb.2, q _ G1 H1 o1 k1 g1 kp ?_⟩
  have := src_range (K := X.K) (G := G1) 0 n.toNat
  simpa using this
theorem XI.range2 {ma mb : M αs Int} {p : Pos} (hg : Gl X "range") (hm : X.mg "range" = none) (ha : XE X Γ a (RT.dat X.K Int) ma) (hb : XE X Γ b (RT.dat X.K Int) mb)
    (hp : PA X [a, b] (tCons (wE X a) (tCons (wE X b) tNil)) := by exact pa_cons pe_w (pa_cons pe_w pa_nil)) (hs : starEach [a, b] X.env = [(false, eval a X.env), (false, eval b X.env)] := by rfl) (hs2 : starEach [b] X.env = [(false, eval b X.env)] := by rfl) :
    XI X Γ tg (.Call (.Name "range" p) [a, b] [] pos) (RT.dat X.K Int) (m2 rng2 ma mb) := by
  intro C s σ G H o k xs s' hm' Rw q
  obtain ⟨x, s1, y, h1, h2, h3⟩ := m2E hm'
  rw [rng2_eq] at h3
  obtain ⟨hz, rfl⟩ := ite_some h3
  refine wI_of (pi_range2 hg hm hp hs hs2) ?_
  refine ha C s σ G H o k x s1 h1 _ fun v G1 H1 o1 B k1 g1 kp r t => ?_
  refine hb C s1 σ G1 H1 o1 k1 y s' h2 _ fun u G2 H2 o2 B2 k2 g2 kp2 r2 t2 => ?_
  cases dq_int r
  cases dq_int r2
  exact ⟨x, y, rfl, hz, q _ G2 H2 o2 k2 (g1.trans g2) (kp.trans kp2) (src_range x (y - x).toNat)⟩
theorem src_list {K : Fr} [Enc α] {G : Hp} {p : Addr} {vs : List V} {xs : List α} (hp : G p = some (.lst vs)) (h : All2 (fun v x => Dq K G v (enc x)) vs xs) : Src G (Itl K p) (RT.dat K α) xs := by
  refine ⟨fun i y H hy e => ?_, fun H e => ⟨vs, SqL.of (e _ _ hp), by rw [h.len]; exact Nat.le_refl _⟩, fun i y G2 H x H' hy e e2 yl => ?_⟩
  · obtain ⟨v, h1, _⟩ := h.get hy
    exact ⟨vs, v, SqL.of (e _ _ hp), h1⟩
  · obtain ⟨rfl, yl⟩ := yl
    obtain ⟨v, h1, h2⟩ := h.get hy
    have := yl vs (SqL.of (e2 _ _ (e _ _ hp)))
    rw [h1] at this; cases this
    exact ⟨G2, .refl e2, dq_mono e h2⟩
theorem XI.list [Enc α] {ma : M αs (List α)} (ha : XE X Γ iter (RT.dat X.K (List α)) ma) : XI X Γ tg iter (RT.dat X.K α) ma := by
  intro C s σ G H o k xs s' hm Rw q
  refine wI_of (pi_list pe_w) ?_
  refine ha C s σ G H o k xs s' hm _ fun v G1 H1 o1 B k1 g1 kp r t => ?_
  obtain ⟨p, vs, rfl, hp, h⟩ := dq_list r
  exact ⟨p, rfl, ⟨vs, SqL.of (k1.gh _ _ hp)⟩, q _ G1 H1 o1 k1 g1 kp (src_list hp h)⟩

/-! ### targets -/
def wG (X : Cx) (tg : Expr) : TG := fun v σ H Q => ∀ (pins : List (Addr × Obj)) (s : Shared) (u : Value), Inv X pins σ H s → RelV v u → wpAny (model X.prog X.w) X.A (assign tg X.env u) (fun _ s' => ∃ σ' H', Inv X pins σ' H' s' ∧ Q σ' H') X.xe s
theorem pg_w : PG X tg (wG X tg) := ⟨fun pins s _ _ _ u _ I r h => h pins s u I r⟩
theorem wG_of {g : TG} {v : V} {σ : L2.St} {H : Hp} {Q : L2.St → Hp → Prop} (h : PG X tg g) (q : g v σ H Q) : wG X tg v σ H Q := fun pins s u I r => h.run pins s σ H v u Q I r q
/-- vs: the slots that are stored -/
def XG (X : Cx) {αs : List Type} (Γ Γ' : RTs X.K αs) (tg : Expr) (R : RT X.K α) (vs : List Nat) (f : α → Env αs → Env αs) : Prop :=
  ∀ (C : C0) (s : Env αs) (σ : L2.St) (G H : Hp) (o : Addr → Option Nat), Ok C Γ s σ G H o → ∀ (v : V) (y : α), R.shr G v y → ∀ Q : L2.St → Hp → Prop,
    (∀ (σ' : L2.St) (o' : Addr → Option Nat), Ok C Γ' (f y s) σ' G H o' → (wipe σ' vs = wipe σ vs) → Q σ' H) → wG X tg v σ H Q
theorem XG.name {x : Var αs α} {R : RT X.K α} {n : Str} (hR : R.fix = true) (hN : X.N.Nodup) (hi : X.N[x.idx]? = some n) (hx : Loc X.env.scope n) (hf : X.fn n = true ∨ X.env.scope.names.lookup n = some .local := by first | exact .inl rfl | exact .inr rfl) :
    XG X Γ (x.setR R Γ) (.Name n pos) R [x.idx] (fun y s => x.set (some y) s) := by
  intro C s σ G H o k v y r Q q
  obtain ⟨o', k'⟩ := k.set x R ((cpy_of hR G H v y (fun _ => False)).mpr r) fun _ h => h.elim
  refine wG_of (pg_name hN hi hx hf) (q _ o' k' ?_)
  show (σ.set x.idx (some v)).set x.idx none = σ.set x.idx none
  rw [List.set_set]
theorem XG.pair [Enc α] [Enc β] {x : Var αs α} {y : Var αs β} {n n' : Str} {p1 p2 : Pos} {kk : Nat} (hc : X.calm = true) (hN : X.N.Nodup) (hi : X.N[x.idx]? = some n) (hx : Loc X.env.scope n) (hj : X.N[y.idx]? = some n') (hy : Loc X.env.scope n') (hne : x.idx ≠ y.idx)
    (hf : X.fn n = true ∨ X.env.scope.names.lookup n = some .local := by first | exact .inl rfl | exact .inr rfl) (hf' : X.fn n' = true ∨ X.env.scope.names.lookup n' = some .local := by first | exact .inl rfl | exact .inr rfl) :
    XG X Γ (y.setR (RT.dat X.K β) (x.setR (RT.dat X.K α) Γ)) (.Tuple [.Name n p1, .Name n' p2] kk pos) (RT.dat X.K (α × β)) [x.idx, y.idx] (fun z s => y.set (some z.2) (x.set (some z.1) s)) := by
  intro C s σ G H o k v z r Q q
  obtain ⟨p, v1, v2, rfl, hp, h1, h2⟩ := dq_pair r
  obtain ⟨o', k'⟩ := k.set x (RT.dat X.K α) (v := v1) (y := z.1) (B := fun _ => False) h1 fun _ h => h.elim
  obtain ⟨o2, k2⟩ := k'.set y (RT.dat X.K β) (v := v2) (y := z.2) (B := fun _ => False) h2 fun _ h => h.elim
  refine wG_of (pg_tup hc (pgs_cons (pg_name hN hi hx hf) (pgs_cons (pg_name hN hj hy hf') pgs_nil))) ?_
  refine ⟨p, [v1, v2], rfl, k.gh.t hp, rfl, v1, [v2], rfl, v2, [], rfl, rfl, q _ o2 k2 ?_⟩
  show (((σ.set x.idx (some v1)).set y.idx (some v2)).set y.idx none).set x.idx none = (σ.set y.idx none).set x.idx none
  rw [List.set_set, List.set_comm _ _ hne, List.set_set]

/-! ### for -/
def loopF (f : α → Env αs → Env αs) (m : MS αs ρ) : List α → Env αs → Option (Ctl ρ × Env αs)
  | [], s => some (.nx, s)
  | x :: xs, s => (m (f x s)).bind fun p => match p.1 with
    | .nx => loopF f m xs p.2
    | .ct => loopF f m xs p.2
    | .bk => some (.nx, p.2)
    | .rt r => some (.rt r, p.2)
def sFor (mi : M αs (List α)) (f : α → Env αs → Env αs) (m : MS αs ρ) : MS αs ρ := fun s => (mi s).bind fun p => loopF f m p.1 p.2
variable {P : Pk X.K αs ρ} {body : List Stmt}
theorem XS.for_ {R : RT X.K α} {mi : M αs (List α)} {f : α → Env αs → Env αs} {m : MS αs ρ} {vs : List Nat} (hp : PassesOwn (model X.prog X.w) X.A X.env X.xe) (hc : X.calm = true) (hi : XI X Γ tg iter R mi) (w : Wk Γ Γ1)
    (hg : XG X Γ1 Γt tg R vs f) (hb : XSs X ⟨P.R, P.Γr, Γ1⟩ Γt Γ1 body m) (hs : ∀ x, foldedSetIterable iter X.env x = pure x := by intro _; rfl) : XS X P Γ Γ1 (.For tg iter body [] pos) (sFor mi f m) := by
  intro C s σ G H o k c s' hm D fin
  obtain ⟨⟨xs, s1⟩, e1, e2⟩ := bindE hm
  refine wS_of (ps_for hp hc pi_w pg_w pss_w hs) ?_
  refine hi C s σ G H o k xs s1 e1 _ fun J G1 H1 o1 k1 g1 kp src => ?_
  have k1 := k1.weak w
  have base : ∀ {Γ' : RTs X.K αs} {s2 : Env αs} {σ2 : L2.St} {G2 H2 : Hp} {o2 : Addr → Option Nat}, Ok (reC G1 H1 o1) Γ' s2 σ2 G2 H2 o2 → Ok C Γ' s2 σ2 G2 H2 o2 := fun k2 => k1.back k2
  refine ⟨fun i n σ' H' => n = xs.length - i ∧ i ≤ xs.length ∧ ∃ s2 G2 o2, Ok (reC G1 H1 o1) Γ1 s2 σ' G2 H' o2 ∧ loopF f m (xs.drop i) s2 = some (c, s'), ⟨xs.length, by simp, Nat.zero_le _, s1, G1, o1, k1.re, e2⟩, ?_⟩
  rintro i n σ' H' ⟨rfl, hi', s2, G2, o2, k2, e3⟩
  by_cases hlt : i < xs.length
  · have hat : xs[i]? = some xs[i] := List.getElem?_eq_getElem hlt
    rw [List.drop_eq_getElem_cons hlt] at e3
    obtain ⟨⟨c2, s3⟩, e4, e5⟩ := bindE e3
    refine .inr ⟨src.go i _ H' hat (k2.g.trans k2.gh), fun σ3 H3 => ∃ s2 G2 o2, Ok (reC G1 H1 o1) Γ1 s2 σ3 G2 H3 o2 ∧ loopF f m (xs.drop (i + 1)) s2 = some (c, s'), fun σ3 H3 q => ⟨xs.length - (i + 1), by omega, rfl, hlt, q⟩, fun x H3 yl => ?_⟩
    obtain ⟨G3, al, r⟩ := src.yld i _ G2 H' x H3 hat k2.g k2.gh yl
    refine hg _ s2 σ' G3 H3 o2 (k2.al al) x _ r _ fun σ4 o4 k4 _ => ?_
    refine hb _ _ σ4 G3 H3 o4 k4 c2 s3 e4 _ ?_
    cases c2 with
    | nx => exact fun σ5 G5 H5 o5 k5 => ⟨s3, G5, o5, k5, e5⟩
    | ct => exact fun σ5 G5 H5 o5 k5 => ⟨s3, G5, o5, k5, e5⟩
    | bk =>
      cases e5
      exact fun σ5 G5 H5 o5 k5 => fin σ5 G5 H5 o5 (base k5)
    | rt r =>
      cases e5
      exact fun σ5 v G5 H5 o5 B k5 r5 t5 => fin σ5 v G5 H5 o5 B (base k5) r5 (Tmp.back k1 t5)
  · have e : i = xs.length := by omega
    subst e
    rw [List.drop_length] at e3
    cases e3
    exact .inl ⟨src.stop H' (k2.g.trans k2.gh), fin σ' G2 H' o2 (base k2)⟩

/-! ### while -/
def loopW (mc : M αs Bool) (m : MS αs ρ) : Nat → Env αs → Option (Ctl ρ × Env αs)
  | 0, _ => none
  | n + 1, s => (mc s).bind fun p => if p.1 = true then (m p.2).bind fun q => match q.1 with
    | .nx => loopW mc m n q.2
    | .ct => loopW mc m n q.2
    | .bk => some (.nx, q.2)
    | .rt r => some (.rt r, q.2) else some (.nx, p.2)
open Classical in
noncomputable def sWhile (mc : M αs Bool) (m : MS αs ρ) : MS αs ρ := fun s => if h : ∃ n r, loopW mc m n s = some r then some (Classical.choose (Classical.choose_spec h)) else none
theorem loopW_more {mc : M αs Bool} {m : MS αs ρ} : ∀ (n : Nat) (s : Env αs) (r), loopW mc m n s = some r → loopW mc m (n + 1) s = some r
  | 0, _, _, h => by cases h
  | n + 1, s, r, h => by
    rw [loopW] at h ⊢
    obtain ⟨p, h1, h2⟩ := bindE h
    rw [h1]
    show (if p.1 = true then _ else _) = _
    by_cases hp : p.1 = true
    · rw [if_pos hp] at h2 ⊢
      obtain ⟨q, h3, h4⟩ := bindE h2
      rw [h3]
      obtain ⟨c, s2⟩ := q
      cases c with
      | nx => exact loopW_more n s2 r h4
      | ct => exact loopW_more n s2 r h4
      | bk => exact h4
      | rt _ => exact h4
    · rw [if_neg hp] at h2 ⊢
      exact h2
theorem loopW_le {mc : M αs Bool} {m : MS αs ρ} {n k : Nat} {s : Env αs} {r} (h : loopW mc m n s = some r) (hk : n ≤ k) : loopW mc m k s = some r := by
  induction k with
  | zero => cases Nat.le_zero.mp hk; exact h
  | succ k ih =>
    by_cases e : n = k + 1
    · subst e; exact h
    · exact loopW_more k s r (ih (by omega))
theorem sWhile_of {mc : M αs Bool} {m : MS αs ρ} {n : Nat} {s : Env αs} {r} (h : loopW mc m n s = some r) : sWhile mc m s = some r := by
  have hx : ∃ n r, loopW mc m n s = some r := ⟨n, r, h⟩
  unfold sWhile
  rw [dif_pos hx]
  have h2 := Classical.choose_spec (Classical.choose_spec hx)
  have h3 := loopW_le h2 (Nat.le_max_left _ n)
  have h4 := loopW_le h (Nat.le_max_right (Classical.choose hx) n)
  rw [h3] at h4
  exact h4
theorem sWhile_to {mc : M αs Bool} {m : MS αs ρ} {s : Env αs} {r} (h : sWhile mc m s = some r) : ∃ n, loopW mc m n s = some r := by
  unfold sWhile at h
  by_cases hx : ∃ n r, loopW mc m n s = some r
  · rw [dif_pos hx] at h
    have h2 := Classical.choose_spec (Classical.choose_spec hx)
    rw [Option.some.inj h] at h2
    exact ⟨_, h2⟩
  · rw [dif_neg hx] at h; cases h
theorem XS.while_ {mc : M αs Bool} {m : MS αs ρ} (hp : PassesOwn (model X.prog X.w) X.A X.env X.xe) (hc : XT X Γ1 c mc) (hb : XSs X ⟨P.R, P.Γr, Γ1⟩ Γ1 Γ1 body m) (w : Wk Γ Γ1) : XS X P Γ Γ1 (.While c body [] pos) (sWhile mc m) := by
  intro C s σ G H o k cc s' hm D fin
  obtain ⟨n0, e0⟩ := sWhile_to hm
  refine wS_of (ps_while hp pt_w pss_w) ?_
  refine ⟨fun n σ' H' => ∃ s2 G2 o2, Ok C Γ1 s2 σ' G2 H' o2 ∧ loopW mc m n s2 = some (cc, s'), ⟨n0, s, G, o, k.weak w, e0⟩, ?_⟩
  rintro n σ' H' ⟨s2, G2, o2, k2, e2⟩
  cases n with
  | zero => cases e2
  | succ n =>
    obtain ⟨⟨t, s3⟩, e3, e4⟩ := bindE e2
    refine hc C s2 σ' G2 H' o2 k2 t s3 e3 _ fun G3 H3 o3 k3 g3 kp => ?_
    cases t with
    | false =>
      cases e4
      exact fin σ' G3 H3 o3 k3
    | true =>
      obtain ⟨⟨c4, s4⟩, e5, e6⟩ := bindE e4
      refine ⟨fun σ4 H4 => ∃ s2 G2 o2, Ok C Γ1 s2 σ4 G2 H4 o2 ∧ loopW mc m n s2 = some (cc, s'), fun σ4 H4 q => ⟨n, Nat.lt_succ_self n, q⟩, ?_⟩
      refine hb C s3 σ' G3 H3 o3 k3 c4 s4 e5 _ ?_
      cases c4 with
      | nx => exact fun σ5 G5 H5 o5 k5 => ⟨s4, G5, o5, k5, e6⟩
      | ct => exact fun σ5 G5 H5 o5 k5 => ⟨s4, G5, o5, k5, e6⟩
      | bk => cases e6; exact fin
      | rt r => cases e6; exact fin
end
end Sm
/-! S7: comprehensions, lists of one's own, further statements. -/
namespace Sm
open PySem PySem.Spec L2
open Enc (enc)

theorem wipe_ne {σ : L2.St} {i : Nat} : ∀ {vs : List Nat}, i ∉ vs → (wipe σ vs)[i]? = σ[i]?
  | [], _ => rfl
  | v :: vs, h => by
    show ((wipe σ vs).set v none)[i]? = _
    rw [List.getElem?_set_ne (fun e => h (by rw [e]; exact List.mem_cons_self))]
    exact wipe_ne fun m => h (List.mem_cons_of_mem _ m)
section
variable {K : Fr} {C : C0} {αs : List Type} {Γ Γ' : RTs K αs} {s s' : Env αs} {σ σ' : L2.St} {G H G' H' : Hp} {o o' : Addr → Option Nat} {B : Addr → Prop}
/-- a temporary cell is changed -/
theorem Ok.touch (k : Ok C Γ s σ G H o) {d : Addr} {u : HO} (hG : G d = none) (ho : o d = none) (hf : C.M0 d ∨ C.H0 d = none) (hi : ∀ ob, H d = some ob → im ob = false) : Ok C Γ s σ G (upd H d u) o := by
  refine ⟨k.g, fun a ob e => ?_, k.new, fun a ob nm e => ?_, fun a e => ?_, fun a ob e i => ?_, fun a ha => ?_, k.len, fun α x y hx => ?_⟩
  · rw [upd_ne (fun z => by rw [z, hG] at e; cases e)]; exact k.gh a ob e
  · have : a ≠ d := fun z => by
      rw [z] at nm e
      rcases hf with q | q
      · exact nm q
      · rw [q] at e; cases e
    rw [upd_ne this]; exact k.fr a ob nm e
  · by_cases z : a = d
    · rw [z, upd_same]; simp
    · rw [upd_ne z]; exact k.dom a e
  · have h1 := k.imm a ob e i
    have : a ≠ d := fun z => by
      rw [z] at h1
      rw [hi ob h1] at i; cases i
    rw [upd_ne this]; exact h1
  · obtain ⟨h1, ⟨ob, h2, h3⟩, h4⟩ := k.own a ha
    have : a ≠ d := fun z => by rw [z, ho] at ha; exact ha rfl
    exact ⟨h1, ⟨ob, by rw [upd_ne this]; exact h2, h3⟩, h4⟩
  · obtain ⟨v, e, r⟩ := k.sl α x y hx
    refine ⟨v, e, (x.rt Γ).grow r (Ex.refl _) fun a ha => ?_⟩
    have ha' : o a = some x.idx := ha
    rw [upd_ne (fun z => by rw [z, ho] at ha'; cases ha')]
end

section
variable {X : Cx} {αs : List Type} {Γ Γ1 Γ2 Γ' Γt : RTs X.K αs} {α β γ ρ : Type} {e a b c tg iter elt : Expr} {pos : Pos}
def wTs (X : Cx) (ifs : List Expr) : TT := fun σ H Q => ∀ pins s, Inv X pins σ H s →
  wpAny (model X.prog X.w) X.A (forIn ifs true fun c r => if r = true then do let ok ← isTrue c X.env (eval c X.env); pure (ForInStep.yield ok) else pure (ForInStep.yield r)) (TP X pins σ Q) X.xe s
theorem pts_w {ifs : List Expr} : PTs X ifs (wTs X ifs) := ⟨fun pins s _ _ _ I h => h pins s I⟩
def XTs (X : Cx) {αs : List Type} (Γ : RTs X.K αs) (ifs : List Expr) (m : M αs Bool) : Prop :=
  ∀ (C : C0) (s : Env αs) (σ : L2.St) (G H : Hp) (o : Addr → Option Nat), Ok C Γ s σ G H o → ∀ (x : Bool) (s' : Env αs), m s = some (x, s') → ∀ Q : Bool → Hp → Prop,
    (∀ (G' H' : Hp) (o' : Addr → Option Nat), Ok C Γ s' σ G' H' o' → Ex G G' → Kp Γ s s' → Q x H') → wTs X ifs σ H Q
theorem XTs.nil : XTs X Γ [] (mC true) := by
  intro C s σ G H o k x s' hm Q q
  cases hm
  exact fun pins st I => pts_nil.run pins st σ H Q I (q G H o k (Ex.refl _) .refl)
theorem XTs.one {m : M αs Bool} (h : XT X Γ c m) : XTs X Γ [c] m := by
  intro C s σ G H o k x s' hm Q q
  exact fun pins st I => (pts_one pt_w).run pins st σ H Q I (h C s σ G H o k x s' hm Q q)
/-- what a target's names were ahead of a comprehension -/
structure Own (αs : List Type) (vs : List Nat) (f : α → Env αs → Env αs) where
  wp : Env αs → Env αs
  rs : Env αs → Env αs → Env αs
  wp_in : ∀ (β : Type) (x : Var αs β) (s : Env αs), x.idx ∈ vs → x.get (wp s) = none
  wp_out : ∀ (β : Type) (x : Var αs β) (s : Env αs), x.idx ∉ vs → x.get (wp s) = x.get s
  f_wp : ∀ (y : α) (s : Env αs), f y (wp s) = f y s
  f_out : ∀ (β : Type) (x : Var αs β) (y : α) (s : Env αs), x.idx ∉ vs → x.get (f y s) = x.get s
  rs_in : ∀ (β : Type) (x : Var αs β) (s s2 : Env αs), x.idx ∈ vs → x.get (rs s s2) = x.get s
  rs_out : ∀ (β : Type) (x : Var αs β) (s s2 : Env αs), x.idx ∉ vs → x.get (rs s s2) = x.get s2
theorem Var.set_set : ∀ {αs : List Type} {α : Type} (x : Var αs α) (a b : Option α) (s : Env αs), x.set a (x.set b s) = x.set a s
  | _, _, .vz, _, _, _ => rfl
  | _, _, .vs x, a, b, s => by
    show (s.1, x.set a (x.set b s.2)) = (s.1, x.set a s.2)
    rw [x.set_set]
theorem Var.set_comm : ∀ {αs : List Type} {α β : Type} (x : Var αs α) (y : Var αs β) (a : Option α) (b : Option β) (s : Env αs), x.idx ≠ y.idx → x.set a (y.set b s) = y.set b (x.set a s)
  | _, _, _, .vz, .vz, _, _, _, h => absurd rfl h
  | _, _, _, .vz, .vs _, _, _, _, _ => rfl
  | _, _, _, .vs _, .vz, _, _, _, _ => rfl
  | _, _, _, .vs x, .vs y, a, b, s, h => by
    show (s.1, x.set a (y.set b s.2)) = (s.1, y.set b (x.set a s.2))
    rw [set_comm x y a b s.2 (by simpa [idx] using h)]
def Own.one (x : Var αs α) : Own αs [x.idx] (fun (y : α) s => x.set (some y) s) where
  wp := fun s => x.set none s
  rs := fun s s2 => x.set (x.get s) s2
  wp_in := fun β y s h => by
    refine Var.split x (P := fun β y => y.idx ∈ [x.idx] → y.get (x.set none s) = none) (fun _ => x.get_set _ _) (fun β y hy h => ?_) β y h
    exact absurd (by simpa using h) hy
  wp_out := fun β y s h => Var.get_ne x y _ _ (by simpa using h)
  f_wp := fun y s => x.set_set _ _ _
  f_out := fun β y z s h => Var.get_ne x y _ _ (by simpa using h)
  rs_in := fun β y s s2 h => by
    refine Var.split x (P := fun β y => y.idx ∈ [x.idx] → y.get (x.set (x.get s) s2) = y.get s) (fun _ => x.get_set _ _) (fun β y hy h => ?_) β y h
    exact absurd (by simpa using h) hy
  rs_out := fun β y s s2 h => Var.get_ne x y _ _ (by simpa using h)
def Own.two (x : Var αs α) (z : Var αs β) (hne : x.idx ≠ z.idx) : Own αs [x.idx, z.idx] (fun (y : α × β) s => z.set (some y.2) (x.set (some y.1) s)) where
  wp := fun s => z.set none (x.set none s)
  rs := fun s s2 => z.set (z.get s) (x.set (x.get s) s2)
  wp_in := fun γ y s h => by
    refine Var.split z (P := fun β y => y.idx ∈ [x.idx, z.idx] → y.get (z.set none (x.set none s)) = none) (fun _ => z.get_set _ _) (fun β y hy h => ?_) γ y h
    rw [Var.get_ne z y _ _ hy]
    refine Var.split x (P := fun β y => y.idx ≠ z.idx → y.idx ∈ [x.idx, z.idx] → y.get (x.set none s) = none) (fun _ _ => x.get_set _ _) (fun β y hx hz h => ?_) β y hy h
    simp at h
    exact absurd h (by intro h; rcases h with h | h; exact hx h; exact hz h)
  wp_out := fun γ y s h => by
    simp at h
    rw [Var.get_ne z y _ _ h.2, Var.get_ne x y _ _ h.1]
  f_wp := fun y s => by
    rw [Var.set_comm x z _ _ _ hne, Var.set_set, Var.set_set]
  f_out := fun γ y w s h => by
    simp at h
    rw [Var.get_ne z y _ _ h.2, Var.get_ne x y _ _ h.1]
  rs_in := fun γ y s s2 h => by
    refine Var.split z (P := fun β y => y.idx ∈ [x.idx, z.idx] → y.get (z.set (z.get s) (x.set (x.get s) s2)) = y.get s) (fun _ => z.get_set _ _) (fun β y hy h => ?_) γ y h
    rw [Var.get_ne z y _ _ hy]
    refine Var.split x (P := fun β y => y.idx ≠ z.idx → y.idx ∈ [x.idx, z.idx] → y.get (x.set (x.get s) s2) = y.get s) (fun _ _ => x.get_set _ _) (fun β y hx hz h => ?_) β y hy h
    simp at h
    exact absurd h (by intro h; rcases h with h | h; exact hx h; exact hz h)
  rs_out := fun γ y s s2 h => by
    simp at h
    rw [Var.get_ne z y _ _ h.2, Var.get_ne x y _ _ h.1]
def loopC (f : α → Env αs → Env αs) (rs : Env αs → Env αs → Env αs) (mt : M αs Bool) (me : M αs β) : List α → Env αs → Option (List β × Env αs)
  | [], s => some ([], s)
  | x :: xs, s => (mt (f x s)).bind fun p => if p.1 = true then (me p.2).bind fun q => (loopC f rs mt me xs (rs s q.2)).bind fun r => some (q.1 :: r.1, r.2) else loopC f rs mt me xs (rs s p.2)
def mLc (mi : M αs (List α)) (f : α → Env αs → Env αs) (rs : Env αs → Env αs → Env αs) (mt : M αs Bool) (me : M αs β) : M αs (List β) := fun s => (mi s).bind fun p => if p.1.length ≤ 1000000 then loopC f rs mt me p.1 p.2 else none
/-- the reading of a comprehension, from its parts -/
theorem lc_read [Enc β] [PureE β] {R : RT X.K α} {mi : M αs (List α)} {f : α → Env αs → Env αs} {mt : M αs Bool} {me : M αs β} {vs : List Nat} {tgG : TG} {tT : TT} {tE : TE}
    (hi : XI X Γ tg iter R mi) (O : Own αs vs f) (hfix : ∀ (γ : Type) (x : Var αs γ), x.idx ∈ vs → (x.rt Γ).fix = true) (hΓ : ∀ (γ : Type) (x : Var αs γ), x.idx ∉ vs → x.rt Γt = x.rt Γ)
    (hg : ∀ (C : C0) (s : Env αs) (σ : L2.St) (G H : Hp) (o : Addr → Option Nat), Ok C Γ s σ G H o → ∀ (v : V) (y : α), R.shr G v y → ∀ Q : L2.St → Hp → Prop, (∀ (σ' : L2.St) (o' : Addr → Option Nat), Ok C Γt (f y s) σ' G H o' → (wipe σ' vs = wipe σ vs) → Q σ' H) → tgG v σ H Q)
    (ht : ∀ (C : C0) (s : Env αs) (σ : L2.St) (G H : Hp) (o : Addr → Option Nat), Ok C Γt s σ G H o → ∀ (x : Bool) (s' : Env αs), mt s = some (x, s') → ∀ Q : Bool → Hp → Prop, (∀ (G' H' : Hp) (o' : Addr → Option Nat), Ok C Γt s' σ G' H' o' → Ex G G' → Kp Γt s s' → Q x H') → tT σ H Q)
    (he : ∀ (C : C0) (s : Env αs) (σ : L2.St) (G H : Hp) (o : Addr → Option Nat), Ok C Γt s σ G H o → ∀ (x : β) (s' : Env αs), me s = some (x, s') → ∀ Q : VK, (∀ (v : V) (G' H' : Hp) (o' : Addr → Option Nat) (B : Addr → Prop), Ok C Γt s' σ G' H' o' → Ex G G' → Kp Γt s s' → (RT.dat X.K β).rel G' H' v x B → Tmp C B G' H' o' → Q v H') → tE σ H Q) :
    ∀ (C : C0) (s : Env αs) (σ : L2.St) (G H : Hp) (o : Addr → Option Nat), Ok C Γ s σ G H o → ∀ (x : List β) (s' : Env αs), mLc mi f O.rs mt me s = some (x, s') → ∀ Q : VK,
    (∀ (v : V) (G' H' : Hp) (o' : Addr → Option Nat) (B : Addr → Prop), Ok C Γ s' σ G' H' o' → Ex G G' → Kp Γ s s' → (RT.own X.K β).rel G' H' v x B → Tmp C B G' H' o' → Q v H') → tLc (wI X tg iter) tgG tT tE vs σ H Q := by
  intro C s σ G H o k ys sE hm Q q
  obtain ⟨⟨xs, s1⟩, e1, e2⟩ := bindE hm
  by_cases hz : xs.length ≤ 1000000
  case neg => rw [if_neg hz] at e2; cases e2
  rw [if_pos hz] at e2
  refine hi C s σ G H o k xs s1 e1 _ fun J G1 H1 o1 k1 g1 kp src D hD => ?_
  have GD : ∀ {G' H' : Hp} {o' : Addr → Option Nat} {s' : Env αs}, Ok (reC G1 H1 o1) Γ s' σ G' H' o' → True := fun _ => trivial
  have oD1 : o1 D = none := by
    cases z : o1 D with
    | none => rfl
    | some i =>
      obtain ⟨_, ⟨ob, h, _⟩, _⟩ := k1.own D (by rw [z]; simp)
      rw [hD] at h; cases h
  refine ⟨fun i n H' => n = xs.length - i ∧ i ≤ xs.length ∧ ∃ s2 G2 o2 acc zs rest, Ok (reC G1 H1 o1) Γ s2 σ G2 H' o2 ∧ Kp Γ s1 s2 ∧ G2 D = none ∧ o2 D = none ∧ H' D = some (.lst acc) ∧ acc.length ≤ i ∧ All2 (fun v x => Dq X.K G2 v (enc x)) acc zs ∧
      loopC f O.rs mt me (xs.drop i) s2 = some (rest, sE) ∧ ys = zs ++ rest, ⟨xs.length, by simp, Nat.zero_le _, s1, G1, o1, [], [], ys, k1.re.al (Al.my k1.gh hD), .refl, ?_, oD1, upd_same, Nat.le_refl _, trivial, e2, rfl⟩, ?_⟩
  · cases z : G1 D with
    | none => rfl
    | some u => rw [k1.gh D u z] at hD; cases hD
  rintro i n H' ⟨rfl, hi', s2, G2, o2, acc, zs, rest, k2, kp2, gD, oD, hacc, hlen, r2, e3, e4⟩
  by_cases hlt : i < xs.length
  · have hat : xs[i]? = some xs[i] := List.getElem?_eq_getElem hlt
    rw [List.drop_eq_getElem_cons hlt] at e3
    obtain ⟨⟨tb, s3⟩, e5, e6⟩ := bindE e3
    refine .inr ⟨src.go i _ H' hat (k2.g.trans k2.gh), fun H3 => ∃ s2 G2 o2 acc zs rest, Ok (reC G1 H1 o1) Γ s2 σ G2 H3 o2 ∧ Kp Γ s1 s2 ∧ G2 D = none ∧ o2 D = none ∧ H3 D = some (.lst acc) ∧ acc.length ≤ i + 1 ∧ All2 (fun v x => Dq X.K G2 v (enc x)) acc zs ∧
      loopC f O.rs mt me (xs.drop (i + 1)) s2 = some (rest, sE) ∧ ys = zs ++ rest, fun H3 z => ⟨xs.length - (i + 1), by omega, rfl, hlt, z⟩, fun x H3 yl => ?_⟩
    obtain ⟨G3, al, r⟩ := src.yld i _ G2 H' x H3 hat k2.g k2.gh yl
    have k3 := k2.al al
    have hacc3 : H3 D = some (.lst acc) := al.h D _ hacc
    have gD3 : G3 D = none := al.new D (by rw [hacc]; simp) gD
    -- the state within the block, as an entry of its own
    have kb : Ok (reC G3 H3 o2) Γ (O.wp s2) (wipe σ vs) G3 H3 o2 := by
      have kr := k3.re
      refine ⟨kr.g, kr.gh, kr.new, kr.fr, kr.dom, kr.imm, kr.own, by rw [wipe_length]; exact kr.len, fun γ y z hz => ?_⟩
      by_cases hy : y.idx ∈ vs
      · rw [O.wp_in γ y s2 hy] at hz; cases hz
      · rw [O.wp_out γ y s2 hy] at hz
        obtain ⟨v, e, rr⟩ := kr.sl γ y z hz
        exact ⟨v, by rw [wipe_ne hy]; exact e, rr⟩
    -- back to the frame
    have fin : ∀ {s4 : Env αs} {σ4 : L2.St} {G4 H4 : Hp} {o4 : Addr → Option Nat}, Ok (reC G3 H3 o2) Γt s4 σ4 G4 H4 o4 → wipe σ4 vs = wipe σ vs → Kp Γt (f xs[i] s2) s4 → H4 D = some (.lst acc) ∧ G4 D = none ∧ o4 D = none ∧ Kp Γ s1 (O.rs s2 s4) ∧ Ok (reC G1 H1 o1) Γ (O.rs s2 s4) σ G4 H4 o4 := by
      intro s4 σ4 G4 H4 o4 k4 hw kp4
      have h1 : H4 D = some (.lst acc) := k4.fr D _ (fun z => z oD) hacc3
      have h2 : G4 D = none := k4.new D (fun z => z oD) (by show H3 D ≠ none; rw [hacc3]; simp) gD3
      have h3 : o4 D = none := by
        cases z : o4 D with
        | none => rfl
        | some j =>
          rcases (k4.own D (by rw [z]; simp)).2.2 with w | w
          · exact absurd oD w
          · have w' : H3 D = none := w
            rw [hacc3] at w'; cases w'
      have kb4 := k3.back (show Ok (reC G3 H3 o2) Γt s4 σ4 G4 H4 o4 from k4)
      refine ⟨h1, h2, h3, fun γ y hy => ?_, ⟨kb4.g, kb4.gh, kb4.new, kb4.fr, kb4.dom, kb4.imm, kb4.own, k3.len, fun γ y z hz => ?_⟩⟩
      · by_cases hv : y.idx ∈ vs
        · rw [O.rs_in γ y _ _ hv]; exact kp2 γ y hy
        · rw [O.rs_out γ y _ _ hv, kp4 γ y (by rw [hΓ γ y hv]; exact hy), O.f_out γ y _ _ hv]; exact kp2 γ y hy
      · by_cases hv : y.idx ∈ vs
        · rw [O.rs_in γ y _ _ hv] at hz
          obtain ⟨v, e, rr⟩ := k3.sl γ y z hz
          exact ⟨v, e, (cpy_of (hfix γ y hv) _ _ _ _ _).mpr ((y.rt Γ).smono ((cpy_of (hfix γ y hv) _ _ _ _ _).mp rr) k4.g)⟩
        · rw [O.rs_out γ y _ _ hv] at hz
          obtain ⟨v, e, rr⟩ := kb4.sl γ y z hz
          rw [hΓ γ y hv] at rr
          refine ⟨v, ?_, rr⟩
          have e1 : (wipe σ4 vs)[y.idx]? = (wipe σ vs)[y.idx]? := by rw [hw]
          rw [wipe_ne hv, wipe_ne hv] at e1
          rw [← e1]; exact e
    refine hg _ (O.wp s2) (wipe σ vs) G3 H3 o2 kb x _ r _ fun σ4 o4 k4 hw => ?_
    rw [O.f_wp] at k4
    have ww : ∀ (τ : L2.St) (ns : List Nat), wipe (wipe τ ns) ns = wipe τ ns := by
      intro τ ns
      apply List.ext_getElem?
      intro j
      by_cases hj : j ∈ ns
      · have n1 : ∀ (τ : L2.St) (ns : List Nat), j ∈ ns → (wipe τ ns)[j]? = if j < τ.length then some none else none := by
          intro τ ns
          induction ns with
          | nil => intro h; cases h
          | cons n ns ih =>
            intro h
            show ((wipe τ ns).set n none)[j]? = _
            by_cases hn : n = j
            · subst hn
              rw [List.getElem?_set]
              simp [wipe_length]
            · rw [List.getElem?_set_ne hn]
              rcases List.mem_cons.mp h with h | h
              · exact absurd h.symm hn
              · exact ih h
        rw [n1 _ _ hj, n1 _ _ hj, wipe_length]
      · rw [wipe_ne hj]
    have hw : wipe σ4 vs = wipe σ vs := by rw [hw, ww]
    refine ⟨hw, ?_⟩
    refine ht _ _ σ4 G3 H3 o4 k4 tb s3 e5 _ fun G5 H5 o5 k5 g5 kp5 => ?_
    cases tb with
    | false =>
      obtain ⟨h1, h2, h3, h4, h5⟩ := fin k5 hw kp5
      exact ⟨_, G5, o5, acc, zs, rest, h5, h4, h2, h3, h1, Nat.le_succ_of_le hlen, r2.imp fun _ _ z => dq_mono (al.g.trans g5) z, e6, e4⟩
    | true =>
      obtain ⟨⟨y, s6⟩, e7, e8⟩ := bindE e6
      obtain ⟨⟨rest2, s7⟩, e9, e10⟩ := bindE e8
      cases e10
      show tE σ4 H5 _
      refine he _ s3 σ4 G5 H5 o5 k5 y s6 e7 _ fun v G6 H6 o6 B k6 g6 kp6 r6 t6 => ?_
      obtain ⟨h1, h2, h3, h4, h5⟩ := fin k6 hw (kp5.trans kp6)
      refine ⟨acc, h1, Nat.lt_of_le_of_lt (Nat.le_trans hlen (Nat.le_trans (Nat.le_of_lt hlt) hz)) (by decide), _, G6, o6, acc ++ [v], zs ++ [y], rest2, h5.touch h2 h3 (.inr hD) (fun ob e => by rw [h1] at e; cases e; rfl), h4, h2, h3, upd_same, ?_, ?_, e9, ?_⟩
      · rw [List.length_append]
        show acc.length + 1 ≤ i + 1
        omega
      · exact All2.app (r2.imp fun _ _ z => dq_mono ((al.g.trans g5).trans g6) z) ⟨r6, trivial⟩
      · rw [e4]; simp
  · have e : i = xs.length := by omega
    subst e
    rw [List.drop_length] at e3
    cases e3
    rw [List.append_nil] at e4
    subst e4
    refine .inl ⟨src.stop H' (k2.g.trans k2.gh), q (.ref D) G2 H' o2 (fun a => a = D) (k1.back k2) (g1.trans k2.g) (kp.trans kp2) ⟨D, acc, rfl, rfl, hacc, r2⟩ fun a ha => ?_⟩
    subst ha
    exact ⟨oD, gD, ⟨_, hacc, rfl⟩, k1.free (.inr hD)⟩
variable {ifs : List Expr} {scope : Scope} {own : List (Str × Nat)} {P : Pk X.K αs ρ}
theorem XE.lc [Enc β] [PureE β] {R : RT X.K α} {mi : M αs (List α)} {f : α → Env αs → Env αs} {mt : M αs Bool} {me : M αs β} (hc : X.calm = true) (hN : X.N.Nodup) (ok : BlkOk X.N X.env.scope scope own) (O : Own αs (own.map (·.2)) f)
    (hi : XI X Γ tg iter R mi) (hfix : ∀ (γ : Type) (x : Var αs γ), x.idx ∈ own.map (·.2) → (x.rt Γ).fix = true) (hΓ : ∀ (γ : Type) (x : Var αs γ), x.idx ∉ own.map (·.2) → x.rt Γt = x.rt Γ)
    (hg : ∀ (s : Shared) (H : Hp) (C : Addr) (cl : List (Str × Addr)) (fp : List Addr), XG (X.blk s H scope (compEnvC scope cl C X.env) fp) Γ Γt tg R (own.map (·.2)) f)
    (ht : ∀ (s : Shared) (H : Hp) (C : Addr) (cl : List (Str × Addr)) (fp : List Addr), XTs (X.blk s H scope (compEnvC scope cl C X.env) fp) Γt ifs mt)
    (he : ∀ (s : Shared) (H : Hp) (C : Addr) (cl : List (Str × Addr)) (fp : List Addr), XE (X.blk s H scope (compEnvC scope cl C X.env) fp) Γt elt (RT.dat X.K β) me) (hs : ∀ x, foldedSetIterable iter X.env x = pure x := by intro _; rfl) :
    XE X Γ (.ListComp elt [⟨tg, iter, ifs, 0⟩] scope pos) (RT.own X.K β) (mLc mi f O.rs mt me) := by
  intro C s σ G H o k x s' hm Q q
  refine wE_of (pe_lc (wi := wI X tg iter) (g := fun v σ H Q => ∀ s H' C cl fp, wG (X.blk s H' scope (compEnvC scope cl C X.env) fp) tg v σ H Q) (tt := fun σ H Q => ∀ s H' C cl fp, wTs (X.blk s H' scope (compEnvC scope cl C X.env) fp) ifs σ H Q) (te := fun σ H Q => ∀ s H' C cl fp, wE (X.blk s H' scope (compEnvC scope cl C X.env) fp) elt σ H Q) hc hN pi_w ok
    (fun s H' C cl fp => ⟨fun pins st σ H v u Q I r h => h s H' C cl fp pins st u I r⟩) (fun s H' C cl fp => ⟨fun pins st σ H Q I h => h s H' C cl fp pins st I⟩) (fun s H' C cl fp => ⟨fun pins st σ H Q I h => h s H' C cl fp pins st I⟩) hs) ?_
  exact lc_read hi O hfix hΓ (fun C s σ G H o k v y r Q q s' H' C' cl fp => hg s' H' C' cl fp C s σ G H o k v y r Q q) (fun C s σ G H o k x s2 e Q q s' H' C' cl fp => ht s' H' C' cl fp C s σ G H o k x s2 e Q q) (fun C s σ G H o k x s2 e Q q s' H' C' cl fp => he s' H' C' cl fp C s σ G H o k x s2 e Q q) C s σ G H o k x s' hm Q q
/-- name = [..] -/
theorem XS.asgLc [Enc β] [PureE β] {R : RT X.K α} {mi : M αs (List α)} {f : α → Env αs → Env αs} {mt : M αs Bool} {me : M αs β} {z : Var αs (List β)} {n : Str} {py spos : Pos} (hc : X.calm = true) (hN : X.N.Nodup) (ok : BlkOk X.N X.env.scope scope own) (O : Own αs (own.map (·.2)) f)
    (hz : X.N[z.idx]? = some n) (hl : X.env.scope.names.lookup n = some .local) (hsw : swapsWith (.ListComp elt [⟨tg, iter, ifs, 0⟩] scope pos) (some (.Name n py)) spos.line X.env = pure true)
    (hi : XI X Γ tg iter R mi) (hfix : ∀ (γ : Type) (x : Var αs γ), x.idx ∈ own.map (·.2) → (x.rt Γ).fix = true) (hΓ : ∀ (γ : Type) (x : Var αs γ), x.idx ∉ own.map (·.2) → x.rt Γt = x.rt Γ)
    (hg : ∀ (s : Shared) (H : Hp) (C : Addr) (cl : List (Str × Addr)) (fp : List Addr), XG (X.blk s H scope (compEnvC scope cl C X.env) fp) Γ Γt tg R (own.map (·.2)) f)
    (ht : ∀ (s : Shared) (H : Hp) (C : Addr) (cl : List (Str × Addr)) (fp : List Addr), XTs (X.blk s H scope (compEnvC scope cl C X.env) fp) Γt ifs mt)
    (he : ∀ (s : Shared) (H : Hp) (C : Addr) (cl : List (Str × Addr)) (fp : List Addr), XE (X.blk s H scope (compEnvC scope cl C X.env) fp) Γt elt (RT.dat X.K β) me) (hs : ∀ x, foldedSetIterable iter X.env x = pure x := by intro _; rfl) :
    XS X P Γ (z.setR (RT.own X.K β) Γ) (.Assign [.Name n py] (.ListComp elt [⟨tg, iter, ifs, 0⟩] scope pos) spos) (sAsg z (mLc mi f O.rs mt me)) := by
  intro C s σ G H o k cc sE hm D fin
  obtain ⟨⟨x, s'⟩, e1, e2⟩ := bindE hm
  cases e2
  refine wS_of (ps_setLc (wi := wI X tg iter) (g := fun v σ H Q => ∀ s H' C cl fp, wG (X.blk s H' scope (compEnvC scope cl C X.env) fp) tg v σ H Q) (tt := fun σ H Q => ∀ s H' C cl fp, wTs (X.blk s H' scope (compEnvC scope cl C X.env) fp) ifs σ H Q) (te := fun σ H Q => ∀ s H' C cl fp, wE (X.blk s H' scope (compEnvC scope cl C X.env) fp) elt σ H Q) hc hN hz hl hsw pi_w ok
    (fun s H' C cl fp => ⟨fun pins st σ H v u Q I r h => h s H' C cl fp pins st u I r⟩) (fun s H' C cl fp => ⟨fun pins st σ H Q I h => h s H' C cl fp pins st I⟩) (fun s H' C cl fp => ⟨fun pins st σ H Q I h => h s H' C cl fp pins st I⟩) hs) ?_
  refine lc_read hi O hfix hΓ (fun C s σ G H o k v y r Q q s' H' C' cl fp => hg s' H' C' cl fp C s σ G H o k v y r Q q) (fun C s σ G H o k x s2 e Q q s' H' C' cl fp => ht s' H' C' cl fp C s σ G H o k x s2 e Q q) (fun C s σ G H o k x s2 e Q q s' H' C' cl fp => he s' H' C' cl fp C s σ G H o k x s2 e Q q) C s σ G H o k x s' e1 _ fun v G1 H1 o1 B k1 g1 kp r t => ?_
  obtain ⟨o2, k2⟩ := k1.set z _ r t
  exact fin _ G1 H1 o2 k2
end
end Sm
/-! S8: lists of one's own changed, further assignments. -/
namespace Sm
open PySem PySem.Spec L2
open Enc (enc)

section
variable {K : Fr} {C : C0} {αs : List Type} {Γ Γ' : RTs K αs} {s s' : Env αs} {σ σ' : L2.St} {G H G' H' : Hp} {o o' : Addr → Option Nat} {B : Addr → Prop} {α : Type}
/-- a cell of the slot x is changed -/
theorem Ok.mut (k : Ok C Γ s σ G H o) (x : Var αs α) {p : Addr} {u : HO} {v : V} {y : α} (hσ : σ[x.idx]? = some (some v)) (ho : o p = some x.idx) (hu : im u = false) (hr : (x.rt Γ).rel G (upd H p u) v y (fun a => o a = some x.idx)) :
    Ok C Γ (x.set (some y) s) σ G (upd H p u) o := by
  obtain ⟨hG, ⟨ob0, hp, hi⟩, hf⟩ := k.own p (by rw [ho]; simp)
  refine ⟨k.g, fun a ob e => ?_, k.new, fun a ob nm e => ?_, fun a e => ?_, fun a ob e i => ?_, fun a ha => ?_, k.len, Var.split x (fun z hz => ?_) fun β z hz w hw => ?_⟩
  · rw [upd_ne (fun z => by rw [z, hG] at e; cases e)]; exact k.gh a ob e
  · have : a ≠ p := fun z => by
      rw [z] at nm e
      rcases hf with q | q
      · exact nm q
      · rw [q] at e; cases e
    rw [upd_ne this]; exact k.fr a ob nm e
  · by_cases z : a = p
    · rw [z, upd_same]; simp
    · rw [upd_ne z]; exact k.dom a e
  · have h1 := k.imm a ob e i
    have : a ≠ p := fun z => by
      rw [z, hp] at h1
      cases h1; rw [hi] at i; cases i
    rw [upd_ne this]; exact h1
  · obtain ⟨h1, h2, h4⟩ := k.own a ha
    refine ⟨h1, ?_, h4⟩
    by_cases z : a = p
    · rw [z]; exact ⟨u, upd_same, hu⟩
    · rw [upd_ne z]; exact h2
  · rw [Var.get_set] at hz
    cases hz
    exact ⟨v, hσ, hr⟩
  · rw [Var.get_ne x z _ _ hz] at hw
    obtain ⟨v', e, r⟩ := k.sl β z w hw
    refine ⟨v', e, (z.rt Γ).grow r (Ex.refl _) fun a ha => ?_⟩
    have ha' : o a = some z.idx := ha
    rw [upd_ne (fun q => by rw [q, ho] at ha'; exact hz (Option.some.inj ha').symm)]
end

/-! ### the entry value kept -/
section
variable {K : Fr} {α β : Type}
def RT.at (v0 : V) (R : RT K α) : RT K α where
  rel := fun G H v x A => v = v0 ∧ R.rel G H v x A
  shr := fun G v x => v = v0 ∧ R.shr G v x
  fix := R.fix
  grow := fun ⟨e, h⟩ g f => ⟨e, R.grow h g f⟩
  view := fun ⟨e, h⟩ g f => ⟨e, R.view h g f⟩
  smono := fun ⟨e, h⟩ g => ⟨e, R.smono h g⟩
  wid := fun ⟨e, h⟩ f => ⟨e, R.wid h f⟩
  ok := by
    rcases R.ok with ⟨f, k⟩ | ⟨f, k⟩
    · exact .inl ⟨f, fun G H v x A => ⟨fun h => ⟨h.1, (k G H v x A).mp h.2⟩, fun h => ⟨h.1, (k G H v x A).mpr h.2⟩⟩⟩
    · exact .inr ⟨f, fun G G' H v x A h e => ⟨h.1, k G G' H v x A h.2 e⟩⟩
/-- R is S at the values it speaks of -/
structure Sub (R S : RT K α) : Prop where
  to : ∀ {G H : Hp} {v : V} {x : α} {A : Addr → Prop}, R.rel G H v x A → S.rel G H v x A
  of : ∀ {G H G' H' : Hp} {v : V} {x y : α} {A B : Addr → Prop}, R.rel G H v x A → S.rel G' H' v y B → R.rel G' H' v y B
  fx : R.fix = S.fix
theorem Sub.refl {R : RT K α} : Sub R R := ⟨fun h => h, fun _ h => h, rfl⟩
theorem Sub.at {v0 : V} {R : RT K α} : Sub (RT.at v0 R) R := ⟨fun h => h.2, fun h k => ⟨h.1, k⟩, rfl⟩
end

section
variable {X : Cx} {αs : List Type} {Γ Γ1 Γ2 Γ' Γt : RTs X.K αs} {α β γ ρ : Type} {e e2 i a b c tg : Expr} {pos pos' pn : Pos} {P : Pk X.K αs ρ} {n n' : Str}
noncomputable def setAt {α : Type} : List α → Int → α → Option (List α) := (Seal fun (xs : List α) (i : Int) (v : α) => (ixN xs.length i).map fun j => xs.set j v).1
theorem setAt_eq {α : Type} (xs : List α) (i : Int) (v : α) : setAt xs i v = (ixN xs.length i).map fun j => xs.set j v := by unfold setAt; rw [(Seal _).2]
noncomputable def sSetI (x : Var αs (List α)) (mi : M αs Int) (me : M αs α) : MS αs ρ := fun s => (me s).bind fun p => (x.get p.2).bind fun _ => (mi p.2).bind fun q => (x.get q.2).bind fun xs => (setAt xs q.1 p.1).bind fun ys => some (.nx, x.set (some ys) q.2)
/-- what an own slot holds -/
theorem Ok.ownAt [Enc α] [PureE α] {C : C0} {s : Env αs} {σ : L2.St} {G H : Hp} {o : Addr → Option Nat} (k : Ok C Γ s σ G H o) {x : Var αs (List α)} (hx : Sub (x.rt Γ) (RT.own X.K α)) {xs : List α} (h : x.get s = some xs) :
    ∃ p vs, σ[x.idx]? = some (some (.ref p)) ∧ o p = some x.idx ∧ H p = some (.lst vs) ∧ All2 (fun v x => Dq X.K G v (enc x)) vs xs ∧ (x.rt Γ).rel G H (.ref p) xs (fun a => o a = some x.idx) := by
  obtain ⟨v, e, r⟩ := k.sl _ x xs h
  obtain ⟨p, vs, rfl, hp, hh, hr⟩ := hx.to r
  exact ⟨p, vs, e, hp, hh, hr, r⟩
theorem XS.setI [Enc α] [PureE α] {x : Var αs (List α)} {mi : M αs Int} {me : M αs α} (hpe : PE X (.Name n pn) (tVar x.idx)) (hx : Sub (x.rt Γ) (RT.own X.K α)) (he : XE X Γ e (RT.dat X.K α) me) (hi : XE X Γ i (RT.dat X.K Int) mi)
    (hg : PG X (.Subscript (.Name n pn) i pos') (gSub (tVar x.idx) (wE X i) rSetL) := by exact pg_sub (pv _) pe_w set_list)
    (hs : swapsWithSole [.Subscript (.Name n pn) i pos'] e pos.line X.env = pure false := by rfl) (hw : swappedStores [.Subscript (.Name n pn) i pos'] e X.env = pure none := by rfl)
    (h1 : (assignEach [.Subscript (.Name n pn) i pos'] X.env).map (·.2) = [assign (.Subscript (.Name n pn) i pos') X.env] := by rfl) :
    XS X P Γ Γ (.Assign [.Subscript (.Name n pn) i pos'] e pos) (sSetI x mi me) := by
  intro C s σ G H o k cc sE hm D fin
  obtain ⟨⟨v, s1⟩, e1, e2⟩ := bindE hm
  obtain ⟨xs0, e0, e2⟩ := bindE e2
  obtain ⟨⟨j, s2⟩, e3, e4⟩ := bindE e2
  obtain ⟨xs, e5, e6⟩ := bindE e4
  obtain ⟨ys, e7, e8⟩ := bindE e6
  cases e8
  refine wS_of (ps_asg pe_w hg hs hw h1) ?_
  refine he C s σ G H o k v s1 e1 _ fun w G1 H1 o1 B k1 g1 kp1 r1 t1 => ?_
  obtain ⟨p0, _, h0, _⟩ := k1.ownAt hx e0
  refine ⟨_, h0, ?_⟩
  refine hi C s1 σ G1 H1 o1 k1 j s2 e3 _ fun u G2 H2 o2 B2 k2 g2 kp2 r2 t2 => ?_
  cases dq_int r2
  obtain ⟨p, vs, h1, h2, h3, h4, h9⟩ := k2.ownAt hx e5
  rw [h0] at h1; cases h1
  rw [setAt_eq] at e7
  obtain ⟨jn, h5, h6⟩ := Option.map_eq_some_iff.mp e7
  subst h6
  refine ⟨p0, vs, j, jn, rfl, rfl, h3, by rw [h4.len]; exact h5, ?_⟩
  exact fin σ G2 _ o2 (k2.mut x h0 h2 rfl (hx.of h9 ⟨p0, _, rfl, h2, upd_same, All2.set (P := fun v x => Dq X.K G2 v (enc x)) (dq_mono g2 r1) jn h4⟩))
/-- x.append(e) -/
def sApp (x : Var αs (List α)) (me : M αs α) : MS αs ρ := fun s => (x.get s).bind fun _ => (me s).bind fun p => (x.get p.2).bind fun xs => if xs.length < 1000000 then some (.nx, x.set (some (xs ++ [p.1])) p.2) else none
theorem XS.app [Enc α] [PureE α] {x : Var αs (List α)} {me : M αs α} {apos cpos : Pos} (hpe : PE X (.Name n pn) (tVar x.idx)) (hx : Sub (x.rt Γ) (RT.own X.K α)) (he : XE X Γ e (RT.dat X.K α) me)
    (hp : PE X (.Call (.Attribute (.Name n pn) "append" apos) [e] [] cpos) (tBM X.K "list" rAppend (tVar x.idx) (tCons (wE X e) tNil)) := by exact pe_bm PySem.F.plainAttrs_list PySem.F.slot_list_append PySem.F.type_list_append mt_append (pv _) (pa_cons pe_w pa_nil))
    (hs : swapsWith (.Call (.Attribute (.Name n pn) "append" apos) [e] [] cpos) none pos.line X.env = pure false := by rfl) : XS X P Γ Γ (.Expr (.Call (.Attribute (.Name n pn) "append" apos) [e] [] cpos) pos) (sApp x me) := by
  intro C s σ G H o k cc sE hm D fin
  obtain ⟨xs0, e0, e2⟩ := bindE hm
  obtain ⟨⟨v, s1⟩, e1, e2⟩ := bindE e2
  obtain ⟨xs, e5, e6⟩ := bindE e2
  have e7 := ite_some e6.symm.symm
  obtain ⟨hl, e8⟩ := e7
  cases e8
  refine wS_of (ps_expr hp hs) ?_
  obtain ⟨p0, vs0, h0, _, h00, _, _⟩ := k.ownAt hx e0
  refine ⟨_, h0, .inl ⟨rfl, _, SqL.of h00⟩, ?_⟩
  refine he C s σ G H o k v s1 e1 _ fun w G1 H1 o1 B k1 g1 kp1 r1 t1 => ?_
  obtain ⟨p, vs, h1, h2, h3, h4, h9⟩ := k1.ownAt hx e5
  rw [h0] at h1; cases h1
  refine ⟨p0, vs, w, rfl, rfl, h3, by rw [h4.len]; exact Nat.lt_trans hl (by decide), ?_⟩
  exact fin σ G1 _ o1 (k1.mut x h0 h2 rfl (hx.of h9 ⟨p0, _, rfl, h2, upd_same, All2.app (P := fun v x => Dq X.K G1 v (enc x)) h4 ⟨r1, trivial⟩⟩))
/-- name op= e, ints -/
def sAug (x : Var αs Int) (f : Int → Int → Option Int) (me : M αs Int) : MS αs ρ := fun s => (x.get s).bind fun a => (me s).bind fun p => (f a p.1).bind fun c => some (.nx, x.set (some c) p.2)
theorem XS.aug {x : Var αs Int} {me : M αs Int} {op : Operator} {g : Int → Int → Int} {f : Int → Int → Option Int} (ho : PIp X op (ipI g)) (hf : ∀ i j z, f i j = some z → z = g i j) (hx : x.rt Γ = RT.dat X.K Int) (he : XE X Γ e (RT.dat X.K Int) me) (hN : X.N.Nodup) (hi : X.N[x.idx]? = some n) (hl : Loc X.env.scope n)
    (hfn : X.fn n = true ∨ X.env.scope.names.lookup n = some .local := by first | exact .inl rfl | exact .inr rfl) : XS X P Γ (x.setR (RT.dat X.K Int) Γ) (.AugAssign (.Name n pos') op e pos) (sAug x f me) := by
  intro C s σ G H o k cc sE hm D fin
  obtain ⟨a, e0, e2⟩ := bindE hm
  obtain ⟨⟨b, s1⟩, e1, e2⟩ := bindE e2
  obtain ⟨c, e3, e4⟩ := bindE e2
  cases e4
  obtain ⟨v, h0, r⟩ := k.sl _ x a e0
  rw [hx] at r
  cases dq_int r
  refine wS_of (ps_aug hN hi hl pe_w ho hfn) ⟨_, h0, ?_⟩
  refine he C s σ G H o k b s1 e1 _ fun w G1 H1 o1 B k1 g1 kp1 r1 t1 => ?_
  cases dq_int r1
  cases hf _ _ _ e3
  obtain ⟨o2, k2⟩ := k1.set x (RT.dat X.K Int) (v := .int (g a b)) (y := g a b) (B := fun _ => False) (show Dq X.K G1 _ (.int _) from .int _) fun _ h => h.elim
  exact ⟨a, b, rfl, rfl, fin _ G1 H1 o2 k2⟩
theorem XS.augAdd {x : Var αs Int} {me : M αs Int} (hx : x.rt Γ = RT.dat X.K Int) (he : XE X Γ e (RT.dat X.K Int) me) (hN : X.N.Nodup) (hi : X.N[x.idx]? = some n) (hl : Loc X.env.scope n)
    (hfn : X.fn n = true ∨ X.env.scope.names.lookup n = some .local := by first | exact .inl rfl | exact .inr rfl) : XS X P Γ (x.setR (RT.dat X.K Int) Γ) (.AugAssign (.Name n pos') .Add e pos) (sAug x iadd me) := XS.aug ip_add (fun _ _ _ h => (Option.some.inj h).symm) hx he hN hi hl hfn
/-- a target of any form -/
def sAsgG (f : α → Env αs → Env αs) (m : M αs α) : MS αs ρ := fun s => (m s).bind fun p => some (.nx, f p.1 p.2)
theorem XS.asgG {R : RT X.K α} {vs : List Nat} {f : α → Env αs → Env αs} {m : M αs α} (hR : R.fix = true) (he : XE X Γ e R m) (hg : XG X Γ Γ' tg R vs f)
    (hs : swapsWithSole [tg] e pos.line X.env = pure false := by rfl) (hw : swappedStores [tg] e X.env = pure none := by rfl) (h1 : (assignEach [tg] X.env).map (·.2) = [assign tg X.env] := by rfl) : XS X P Γ Γ' (.Assign [tg] e pos) (sAsgG f m) := by
  intro C s σ G H o k cc sE hm D fin
  obtain ⟨⟨y, s1⟩, e1, e2⟩ := bindE hm
  cases e2
  refine wS_of (ps_asg pe_w pg_w hs hw h1) ?_
  refine he C s σ G H o k y s1 e1 _ fun w G1 H1 o1 B k1 g1 kp1 r1 t1 => ?_
  exact hg C s1 σ G1 H1 o1 k1 w y ((cpy_of hR _ _ _ _ _).mp r1) _ fun σ' o' k' _ => fin σ' G1 H1 o' k'
/-- two expressions, each perhaps one's own -/
theorem two {R1 : RT X.K α} {R2 : RT X.K β} {m : M αs α} {l : M αs β} (h1 : XE X Γ e R1 m) (h2 : XE X Γ e2 R2 l) (C : C0) (s : Env αs) (σ : L2.St) (G H : Hp) (o : Addr → Option Nat) (k : Ok C Γ s σ G H o) (x : α) (s1 : Env αs) (y : β) (s2 : Env αs) (a1 : m s = some (x, s1)) (a2 : l s1 = some (y, s2))
    {Q : V → V → Hp → Prop} (q : ∀ (v u : V) (G' H' : Hp) (o' : Addr → Option Nat) (B B' : Addr → Prop), Ok C Γ s2 σ G' H' o' → Ex G G' → Kp Γ s s2 → R1.rel G' H' v x B → R2.rel G' H' u y B' → Tmp C B G' H' o' → Tmp C B' G' H' o' → (∀ a, B a → ¬ B' a) → Q v u H') :
    wE X e σ H fun v H1 => wE X e2 σ H1 fun u H2 => Q v u H2 := by
  refine h1 C s σ G H o k x s1 a1 _ fun v G1 H1 o1 B k1 g1 kp1 r1 t1 => ?_
  refine h2 _ s1 σ G1 H1 o1 k1.re y s2 a2 _ fun u G2 H2 o2 B2 k2 g2 kp2 r2 t2 => ?_
  have hb : ∀ a, B a → ∃ ob, H1 a = some ob ∧ H2 a = some ob ∧ im ob = false ∧ o2 a = none ∧ G2 a = none := fun a ha => by
    obtain ⟨h1, h2, ⟨ob, h3, h4⟩, h5⟩ := t1 a ha
    have n : ¬ (reC G1 H1 o1).M0 a := fun z => z h1
    refine ⟨ob, h3, k2.fr a ob n h3, h4, ?_, k2.new a n (by show H1 a ≠ none; rw [h3]; simp) h2⟩
    cases z : o2 a with
    | none => rfl
    | some j =>
      rcases (k2.own a (by rw [z]; simp)).2.2 with w | w
      · exact absurd h1 w
      · have w' : H1 a = none := w
        rw [h3] at w'; cases w'
  refine q v u G2 H2 o2 B B2 (k1.back k2) (g1.trans g2) (kp1.trans kp2) (R1.grow r1 g2 fun a ha => ?_) r2 (fun a ha => ?_) (Tmp.back k1 t2) fun a ha hb2 => ?_
  · obtain ⟨ob, h3, h4, _⟩ := hb a ha
    rw [h3, h4]
  · obtain ⟨ob, h3, h4, h5, h6, h7⟩ := hb a ha
    exact ⟨h6, h7, ⟨ob, h4, h5⟩, (t1 a ha).2.2.2⟩
  · obtain ⟨ob, h3, _⟩ := hb a ha
    rcases (t2 a hb2).2.2.2 with w | w
    · exact w (t1 a ha).1
    · have w' : H1 a = none := w
      rw [h3] at w'; cases w'
/-- a, b = e, e2 -/
def sPar (x : Var αs α) (y : Var αs β) (m : M αs α) (l : M αs β) : MS αs ρ := fun s => (m s).bind fun p => (l p.2).bind fun q => some (.nx, y.set (some q.1) (x.set (some p.1) q.2))
theorem XS.par {R1 : RT X.K α} {R2 : RT X.K β} {m : M αs α} {l : M αs β} {x : Var αs α} {y : Var αs β} {px py pt pt2 : Pos} {kt k2} (hc : X.calm = true) (hN : X.N.Nodup) (hi : X.N[x.idx]? = some n) (hj : X.N[y.idx]? = some n') (hij : x.idx ≠ y.idx)
    (hx : X.env.scope.names.lookup n = some .local) (hy : X.env.scope.names.lookup n' = some .local) (h1 : XE X Γ e R1 m) (h2 : XE X Γ e2 R2 l)
    (hw : swappedStores [.Tuple [.Name n px, .Name n' py] kt pt] (.Tuple [e, e2] k2 pt2) X.env = pure (some [n, n']))
    (hp : PA X [e, e2] (tCons (wE X e) (tCons (wE X e2) tNil)) := by exact pa_cons pe_w (pa_cons pe_w pa_nil))
    (hs : swapsWithSole [.Tuple [.Name n px, .Name n' py] kt pt] (.Tuple [e, e2] k2 pt2) pos.line X.env = pure false := by rfl) :
    XS X P Γ (y.setR R2 (x.setR R1 Γ)) (.Assign [.Tuple [.Name n px, .Name n' py] kt pt] (.Tuple [e, e2] k2 pt2) pos) (sPar x y m l) := by
  intro C s σ G H o k cc sE hm D fin
  obtain ⟨⟨v1, s1⟩, e1, e3⟩ := bindE hm
  obtain ⟨⟨v2, s2⟩, e4, e5⟩ := bindE e3
  cases e5
  refine wS_of (ps_par hc hN hi hj hij hx hy hp hw hs) ?_
  refine two h1 h2 C s σ G H o k v1 s1 v2 s2 e1 e4 fun v u G1 H1 o1 B B' k1 g1 kp r1 r2 t1 t2 ds => ?_
  have ka := k1.set' x R1 r1 t1
  have kb := ka.set' y R2 r2 fun a ha => ⟨setO_none (fun hb => ds a hb ha) (t2 a ha).1, (t2 a ha).2⟩
  exact ⟨v, u, rfl, fin _ G1 H1 _ kb⟩
end
end Sm
/-! S9: defs and their calls. -/
namespace Sm
open PySem PySem.Spec L2
open Enc (enc)

/-! ### the parameters ahead of the other names -/
def nones : (ls : List Type) → Env ls
  | [] => ()
  | _ :: r => (none, nones r)
def ext (ls : List Type) : (ps : List Type) → Env ps → Env (ps ++ ls)
  | [], _ => nones ls
  | _ :: ps, s => (s.1, ext ls ps s.2)
def prj (ls : List Type) : (ps : List Type) → Env (ps ++ ls) → Env ps
  | [], _ => ()
  | _ :: ps, s => (s.1, prj ls ps s.2)
def Var.inj (ls : List Type) : {ps : List Type} → {α : Type} → Var ps α → Var (ps ++ ls) α
  | _, _, .vz => .vz
  | _, _, .vs x => .vs (x.inj ls)
theorem Var.inj_idx (ls : List Type) : ∀ {ps : List Type} {α : Type} (x : Var ps α), (x.inj ls).idx = x.idx
  | _, _, .vz => rfl
  | _, _, .vs x => congrArg (· + 1) (x.inj_idx ls)
theorem Var.inj_get (ls : List Type) : ∀ {ps : List Type} {α : Type} (x : Var ps α) (s : Env (ps ++ ls)), (x.inj ls).get s = x.get (prj ls ps s)
  | _, _, .vz, _ => rfl
  | _, _, .vs x, s => x.inj_get ls s.2
theorem prj_ext (ls : List Type) : ∀ (ps : List Type) (s : Env ps), prj ls ps (ext ls ps s) = s
  | [], _ => rfl
  | _ :: ps, s => congrArg (Prod.mk s.1) (prj_ext ls ps s.2)
theorem nones_get : ∀ {ls : List Type} {α : Type} (x : Var ls α), x.get (nones ls) = none
  | _, _, .vz => rfl
  | _, _, .vs x => nones_get x
theorem Var.inj_or (ls : List Type) : ∀ (ps : List Type) {α : Type} (y : Var (ps ++ ls) α) (s : Env ps), (∃ x : Var ps α, y = x.inj ls) ∨ y.get (ext ls ps s) = none
  | [], _, y, _ => .inr (nones_get y)
  | _ :: ps, _, .vz, _ => .inl ⟨.vz, rfl⟩
  | _ :: ps, _, .vs y, s => by
    rcases Var.inj_or ls ps y s.2 with ⟨x, rfl⟩ | h
    · exact .inl ⟨.vs x, rfl⟩
    · exact .inr h

/-- where a def hands out no exception when none is promised -/
class NoX (CX : CXT) : Prop where
  no : ∀ {st : List PySem.Env} {H : Hp} {s : Shared} {u : Value} {s' : Shared}, CX st H s E0 u s' → False
instance : NoX CX0 := ⟨fun h => h⟩
theorem passE {CX : CXT} [NoX CX] {X : Cx} : Passes CX X E0 := fun _ _ _ _ _ _ _ h => (NoX.no h).elim

/-! ### what a def is worth -/
structure Fs (K : Fr) where
  ps : List Type
  Γp : RTs K ps
  Γo : RTs K ps
  ρ : Type
  R : RT K ρ
  f : Env ps → Option (ρ × Env ps)
def spF {K : Fr} (F : Fs K) : Sp := fun vs H Q _ => ∃ (G : Hp) (o : Addr → Option Nat) (s : Env F.ps) (r : F.ρ) (s' : Env F.ps), Ok (reC G H o) F.Γp s (vs.map some) G H o ∧ F.f s = some (r, s') ∧
  ∀ (v : V) (G' H' : Hp) (o' : Addr → Option Nat) (B : Addr → Prop), Ok (reC G H o) F.Γo s' (vs.map some) G' H' o' → F.R.rel G' H' v r B → Tmp (reC G H o) B G' H' o' → Q v H'
theorem spF_len {K : Fr} {F : Fs K} {vs : List V} {H : Hp} {Q : VK} {E : XK} (h : spF F vs H Q E) : vs.length = F.ps.length := by
  obtain ⟨G, o, s, r, s', k, _⟩ := h
  have := k.len
  simpa using this
/-- the parameters' kinds within the body, at the entry values vs -/
def PIn {K : Fr} (ls : List Type) : (ps : List Type) → RTs K ps → RTs K (ps ++ ls) → List V → Prop
  | [], _, _, _ => True
  | α :: ps, Γ, Δ, vs => (∀ (v : V) (G H : Hp) (x : α) (A : Addr → Prop), vs.head? = some v → (show RT K α from Γ.1).rel G H v x A → (show RT K α from Δ.1).rel G H v x A) ∧ PIn ls ps Γ.2 Δ.2 vs.tail
def POut {K : Fr} (ls : List Type) : (ps : List Type) → RTs K ps → RTs K (ps ++ ls) → List V → Prop
  | [], _, _, _ => True
  | α :: ps, Γ, Δ, vs => (∀ (v u : V) (G H : Hp) (x : α) (A : Addr → Prop), vs.head? = some v → (show RT K α from Δ.1).rel G H u x A → (show RT K α from Γ.1).rel G H v x A) ∧ POut ls ps Γ.2 Δ.2 vs.tail
theorem PIn.get {K : Fr} {ls : List Type} : ∀ {ps : List Type} {Γ : RTs K ps} {Δ : RTs K (ps ++ ls)} {vs : List V}, PIn ls ps Γ Δ vs → ∀ {α : Type} (x : Var ps α) (v : V) (G H : Hp) (a : α) (A : Addr → Prop), vs[x.idx]? = some v → (x.rt Γ).rel G H v a A → ((x.inj ls).rt Δ).rel G H v a A
  | _, _, _, vs, h, _, .vz, v, G, H, a, A, e, r => h.1 v G H a A (by cases vs with
      | nil => cases e
      | cons u us => exact e) r
  | _, _, _, vs, h, _, .vs x, v, G, H, a, A, e, r => PIn.get h.2 x v G H a A (by cases vs with
      | nil => simp at e
      | cons u us => simpa [Var.idx] using e) r
theorem POut.get {K : Fr} {ls : List Type} : ∀ {ps : List Type} {Γ : RTs K ps} {Δ : RTs K (ps ++ ls)} {vs : List V}, POut ls ps Γ Δ vs → ∀ {α : Type} (x : Var ps α) (v u : V) (G H : Hp) (a : α) (A : Addr → Prop), vs[x.idx]? = some v → ((x.inj ls).rt Δ).rel G H u a A → (x.rt Γ).rel G H v a A
  | _, _, _, vs, h, _, .vz, v, u, G, H, a, A, e, r => h.1 v u G H a A (by cases vs with
      | nil => cases e
      | cons u us => exact e) r
  | _, _, _, vs, h, _, .vs x, v, u, G, H, a, A, e, r => POut.get h.2 x v u G H a A (by cases vs with
      | nil => simp at e
      | cons u us => simpa [Var.idx] using e) r
def bodyF {ps ls : List Type} {ρ : Type} (m : MS (ps ++ ls) ρ) : Env ps → Option (ρ × Env ps) := fun s => (m (ext ls ps s)).bind fun p => match p.1 with
  | .rt r => some (r, prj ls ps p.2)
  | _ => none
section
variable {Pr : Program} {w : World} {K : Fr} {mg : Str → Option Value} {base : Heap}
/-- THE RULE for a def -/
theorem fs_ok {x qual : Str} {st : Stmt} {f : Addr} {fd : FuncData} {N qs : List Str} {k : Nat} (F : Fun K x qual st f fd) (S : FnScope N qs (defScope st)) {ps ls : List Type} {ρ : Type} {Γp Γo : RTs K ps} {R : RT K ρ} {m : MS (ps ++ ls) ρ}
    (hq : qs.length = ps.length) (hN : N.length = (ps ++ ls).length)
    (hbody : ∀ (cdv : Value) (A : Around) (outer : List PySem.Env) (s : Shared) (H : Hp) (vs : List V) (E : XK), vs.length = ps.length → Room k (A.deeper (PyProof.Rows.envOfC qual (defScope st) s.heap.objs.size f cdv)) →
      ∃ (Γ0 Γr Γ1 : RTs K (ps ++ ls)), PIn ls ps Γp Γ0 vs ∧ POut ls ps Γo Γr vs ∧ XSs (cxOf CX0 Pr w K mg base N qual (defScope st) f cdv A outer s H E).nox ⟨R, Γr, Γ0⟩ Γ0 Γ1 (defBody st) m) :
    FnOk Pr w K mg base CX0 (k + 1) f fd qs (spF ⟨ps, Γp, Γo, ρ, R, bodyF m⟩) := by
  refine F.ok S (fun vs H Q E h => by rw [hq]; exact spF_len h) fun cdv A outer s H vs Q E hr h => ⟨_, pss_w, ?_⟩
  have hl := spF_len h
  obtain ⟨G, o, e, r, e', k0, hf, q⟩ := h
  obtain ⟨Γ0, Γr, Γ1, hin, hout, hb⟩ := hbody cdv A outer s H vs E hl hr
  obtain ⟨⟨c, s2⟩, e1, e2⟩ := bindE (show (m (ext ls ps e)).bind _ = some (r, e') from hf)
  have hs : ∀ i, i < vs.length → (L2.start N vs)[i]? = (vs.map some)[i]? := fun i hi => by
    unfold L2.start
    rw [List.getElem?_append_left (by simpa using hi)]
  have kS : Ok (reC G H o) Γ0 (ext ls ps e) (L2.start N vs) G H o := by
    refine ⟨k0.g, k0.gh, k0.new, k0.fr, k0.dom, k0.imm, k0.own, ?_, fun α y a hy => ?_⟩
    · unfold L2.start
      rw [List.length_append, List.length_map, List.length_replicate]
      have hl' : vs.length = ps.length := hl
      rw [List.length_append] at hN ⊢
      omega
    · rcases Var.inj_or ls ps y e with ⟨x, rfl⟩ | h
      · rw [Var.inj_get, prj_ext] at hy
        obtain ⟨v, h1, h2⟩ := k0.sl α x a hy
        have hx : x.idx < vs.length := by rw [hl]; exact x.lt
        rw [Var.inj_idx]
        refine ⟨v, by rw [hs _ hx]; exact h1, hin.get x v G H a _ ?_ h2⟩
        rw [List.getElem?_map] at h1
        cases z : vs[x.idx]? with
        | none => rw [z] at h1; cases h1
        | some u => rw [z] at h1; cases h1; rfl
      · rw [h] at hy; cases hy
  refine hb (reC G H o) (ext ls ps e) (L2.start N vs) G H o kS c s2 e1 _ ?_
  cases c with
  | nx => cases e2
  | bk => cases e2
  | ct => cases e2
  | rt r' =>
    cases e2
    intro σ' v G' H' o' B k' r1 t1
    refine q v G' H' o' B ⟨k'.g, k'.gh, k'.new, k'.fr, k'.dom, k'.imm, k'.own, k0.len, fun α x a hx => ?_⟩ r1 t1
    have hx' : (x.inj ls).get s2 = some a := by rw [Var.inj_get]; exact hx
    obtain ⟨u, h1, h2⟩ := k'.sl α (x.inj ls) a hx'
    have hxl : x.idx < vs.length := by rw [hl]; exact x.lt
    refine ⟨vs[x.idx], by rw [List.getElem?_map, List.getElem?_eq_getElem hxl]; rfl, ?_⟩
    rw [Var.inj_idx] at h2
    exact hout.get x _ u G' H' a _ (List.getElem?_eq_getElem hxl) h2
end

/-! ### calls -/
/-- how the arguments are given: by value, or a slot that the def may change -/
inductive Ks (αs : List Type) : List Type → Type 1
  | nil : Ks αs []
  | v {α : Type} {r : List Type} : Ks αs r → Ks αs (α :: r)
  | m {α : Type} {r : List Type} : Var αs α → Ks αs r → Ks αs (α :: r)
namespace Ks
def put {αs : List Type} : {ps : List Type} → Ks αs ps → Env ps → Env αs → Env αs
  | _, .nil, _, s => s
  | _, .v k, as, s => k.put as.2 s
  | _, .m x k, as, s => x.set as.1 (k.put as.2 s)
def at_ {αs : List Type} : {ps : List Type} → Ks αs ps → Nat → Option Nat
  | _, .nil, _ => none
  | _, .v k, i => (k.at_ i).map (· + 1)
  | _, .m x k, i => if x.idx = i then some 0 else (k.at_ i).map (· + 1)
def sl {αs : List Type} : {ps : List Type} → Ks αs ps → Nat → Option Nat
  | _, .nil, _ => none
  | _, .v _, 0 => none
  | _, .v k, j + 1 => k.sl j
  | _, .m x _, 0 => some x.idx
  | _, .m _ k, j + 1 => k.sl j
def ixs {αs : List Type} : {ps : List Type} → Ks αs ps → List Nat
  | _, .nil => []
  | _, .v k => k.ixs
  | _, .m x k => x.idx :: k.ixs
end Ks
/-- what stands behind the evaluated arguments -/
def AOk {K : Fr} {αs : List Type} (Γ : RTs K αs) (s : Env αs) (σ : L2.St) (G : Hp) : {ps : List Type} → Ks αs ps → RTs K ps → Env ps → List V → Prop
  | _, .nil, _, _, vs => vs = []
  | α :: _, .v k, Γp, as, vs => ∃ v r, vs = v :: r ∧ (show RT K α from Γp.1).fix = true ∧ (∀ a : α, as.1 = some a → (show RT K α from Γp.1).shr G v a) ∧ AOk Γ s σ G k Γp.2 as.2 r
  | α :: _, .m x k, Γp, as, vs => ∃ v r, vs = v :: r ∧ Sub (x.rt Γ) (show RT K α from Γp.1) ∧ (x.rt Γ).fix = false ∧ σ[x.idx]? = some (some v) ∧ (∃ a, x.get s = some a ∧ as.1 = some a) ∧ AOk Γ s σ G k Γp.2 as.2 r
section
variable {X : Cx} {αs : List Type} {Γ Γ1 Γ2 Γ' Γt : RTs X.K αs} {α β γ ρ : Type} {e a b c : Expr} {es : List Expr} {pos : Pos}
def XA (X : Cx) {αs : List Type} (Γ : RTs X.K αs) (es : List Expr) {ps : List Type} (k : Ks αs ps) (Γp : RTs X.K ps) (m : M αs (Env ps)) : Prop :=
  ∀ (C : C0) (s : Env αs) (σ : L2.St) (G H : Hp) (o : Addr → Option Nat), Ok C Γ s σ G H o → ∀ (as : Env ps) (s' : Env αs), m s = some (as, s') → ∀ Q : List V → Hp → Prop,
    (∀ (vs : List V) (G' H' : Hp) (o' : Addr → Option Nat), Ok C Γ s' σ G' H' o' → Ex G G' → Kp Γ s s' → AOk Γ s' σ G' k Γp as vs → Q vs H') → wA X es σ H Q
def aNil : M αs (Env []) := fun s => some ((), s)
def aV {r : List Type} (m : M αs α) (n : M αs (Env r)) : M αs (Env (α :: r)) := fun s => (m s).bind fun p => (n p.2).bind fun q => some ((some p.1, q.1), q.2)
def aM {r : List Type} (x : Var αs α) (n : M αs (Env r)) : M αs (Env (α :: r)) := fun s => (x.get s).bind fun _ => (n s).bind fun q => (x.get q.2).bind fun a => some ((some a, q.1), q.2)
theorem XA.nil : XA X Γ [] .nil () aNil := by
  intro C s σ G H o k as s' hm Q q
  cases hm
  exact wA_of pa_nil (q [] G H o k (Ex.refl _) .refl rfl)
theorem XA.v {r : List Type} {k : Ks αs r} {Γp : RTs X.K r} {R : RT X.K α} {m : M αs α} {n : M αs (Env r)} (hR : R.fix = true) (he : XE X Γ e R m) (hr : XA X Γ es k Γp n) (hs : starEach (e :: es) X.env = (false, eval e X.env) :: starEach es X.env := by rfl) :
    XA X Γ (e :: es) (.v k) (R, Γp) (aV m n) := by
  intro C s σ G H o k0 as s' hm Q q
  obtain ⟨⟨x, s1⟩, e1, e2⟩ := bindE hm
  obtain ⟨⟨xs, s2⟩, e3, e4⟩ := bindE e2
  cases e4
  refine wA_of (pa_cons pe_w pa_w hs) ?_
  refine he C s σ G H o k0 x s1 e1 _ fun v G1 H1 o1 B k1 g1 kp r1 t1 => ?_
  refine hr C s1 σ G1 H1 o1 k1 xs _ e3 _ fun vs G2 H2 o2 k2 g2 kp2 r2 => ?_
  refine q (v :: vs) G2 H2 o2 k2 (g1.trans g2) (kp.trans kp2) ⟨v, vs, rfl, hR, fun y hy => ?_, r2⟩
  cases hy
  exact R.smono ((cpy_of hR _ _ _ _ _).mp r1) g2
theorem XA.m {r : List Type} {k : Ks αs r} {Γp : RTs X.K r} {R : RT X.K α} {x : Var αs α} {n : M αs (Env r)} {nm : Str} {pn : Pos} (hpe : PE X (.Name nm pn) (tVar x.idx)) (hS : Sub (x.rt Γ) R) (hf : (x.rt Γ).fix = false) (hr : XA X Γ es k Γp n)
    (hs : starEach (.Name nm pn :: es) X.env = (false, eval (.Name nm pn) X.env) :: starEach es X.env := by rfl) : XA X Γ (.Name nm pn :: es) (.m x k) (R, Γp) (aM x n) := by
  intro C s σ G H o k0 as s' hm Q q
  obtain ⟨x0, e1, e2⟩ := bindE hm
  obtain ⟨⟨xs, s2⟩, e3, e4⟩ := bindE e2
  obtain ⟨y0, e5, e6⟩ := bindE e4
  cases e6
  obtain ⟨v, h0, _⟩ := k0.sl _ x x0 e1
  refine wA_of (pa_cons hpe pa_w hs) ⟨v, h0, ?_⟩
  exact hr C s σ G H o k0 xs _ e3 _ fun vs G2 H2 o2 k2 g2 kp2 r2 => q (v :: vs) G2 H2 o2 k2 g2 kp2 ⟨v, vs, rfl, hS, hf, h0, ⟨y0, e5, rfl⟩, r2⟩
theorem Var.idx_inj : ∀ {αs : List Type} {α : Type} (x y : Var αs α), x.idx = y.idx → x = y
  | _, _, .vz, .vz, _ => rfl
  | _, _, .vz, .vs y, h => by simp [Var.idx] at h
  | _, _, .vs x, .vz, h => by simp [Var.idx] at h
  | _, _, .vs x, .vs y, h => by rw [Var.idx_inj x y (by simpa [Var.idx] using h)]
theorem Ks.at_sl : ∀ {ps : List Type} (k : Ks αs ps) {i j : Nat}, k.at_ i = some j → k.sl j = some i
  | _, .nil, _, _, h => by cases h
  | _, .v k, i, j, h => by
    obtain ⟨j', h1, h2⟩ := Option.map_eq_some_iff.mp h
    subst h2
    exact k.at_sl h1
  | _, .m x k, i, j, h => by
    unfold Ks.at_ at h
    by_cases hx : x.idx = i
    · rw [if_pos hx] at h; cases h; subst hx; rfl
    · rw [if_neg hx] at h
      obtain ⟨j', h1, h2⟩ := Option.map_eq_some_iff.mp h
      subst h2
      exact k.at_sl h1
theorem Ks.sl_mem : ∀ {ps : List Type} (k : Ks αs ps) {i j : Nat}, k.sl j = some i → i ∈ k.ixs
  | _, .nil, _, _, h => by cases h
  | _, .v k, i, 0, h => by cases h
  | _, .v k, i, j + 1, h => k.sl_mem (show k.sl j = some i from h)
  | _, .m x k, i, 0, h => by cases h; exact List.mem_cons_self
  | _, .m x k, i, j + 1, h => List.mem_cons_of_mem _ (k.sl_mem (show k.sl j = some i from h))
theorem Ks.sl_at : ∀ {ps : List Type} (k : Ks αs ps) {i j : Nat}, k.ixs.Nodup → k.sl j = some i → k.at_ i = some j
  | _, .nil, _, _, _, h => by cases h
  | _, .v k, i, 0, _, h => by cases h
  | _, .v k, i, j + 1, nd, h => by
    show (k.at_ i).map (· + 1) = some (j + 1)
    rw [k.sl_at nd (show k.sl j = some i from h)]; rfl
  | _, .m x k, i, 0, _, h => by
    cases h
    show (if x.idx = x.idx then some 0 else _) = some 0
    rw [if_pos rfl]
  | _, .m x k, i, j + 1, nd, h => by
    have nd' := List.nodup_cons.mp nd
    have h' : k.sl j = some i := h
    show (if x.idx = i then some 0 else (k.at_ i).map (· + 1)) = some (j + 1)
    rw [if_neg (fun (e : x.idx = i) => nd'.1 (by rw [e]; exact k.sl_mem h')), k.sl_at nd'.2 h']; rfl
theorem Ks.put_get : ∀ {ps : List Type} (k : Ks αs ps) (as : Env ps) (s : Env αs) (β : Type) (y : Var αs β), (∃ z : Var ps β, k.sl z.idx = some y.idx ∧ y.get (k.put as s) = z.get as) ∨ (k.at_ y.idx = none ∧ y.get (k.put as s) = y.get s)
  | _, .nil, _, _, _, _ => .inr ⟨rfl, rfl⟩
  | _, .v k, as, s, β, y => by
    rcases k.put_get as.2 s β y with ⟨z, h1, h2⟩ | ⟨h1, h2⟩
    · exact .inl ⟨.vs z, h1, h2⟩
    · exact .inr ⟨by show (k.at_ y.idx).map (· + 1) = none; rw [h1]; rfl, h2⟩
  | _, .m x k, as, s, β, y => by
    refine Var.split x (P := fun β y => (∃ z : Var _ β, (Ks.m x k).sl z.idx = some y.idx ∧ y.get ((Ks.m x k).put as s) = z.get as) ∨ ((Ks.m x k).at_ y.idx = none ∧ y.get ((Ks.m x k).put as s) = y.get s)) (.inl ⟨.vz, rfl, x.get_set _ _⟩) (fun β y hy => ?_) β y
    rcases k.put_get as.2 s β y with ⟨z, h1, h2⟩ | ⟨h1, h2⟩
    · exact .inl ⟨.vs z, h1, by show y.get (x.set as.1 (k.put as.2 s)) = _; rw [Var.get_ne x y _ _ hy]; exact h2⟩
    · refine .inr ⟨?_, by show y.get (x.set as.1 (k.put as.2 s)) = _; rw [Var.get_ne x y _ _ hy]; exact h2⟩
      show (if x.idx = y.idx then some 0 else (k.at_ y.idx).map (· + 1)) = none
      rw [if_neg (Ne.symm hy), h1]; rfl
theorem AOk.len {K : Fr} {Γ : RTs K αs} {s : Env αs} {σ : L2.St} {G : Hp} : ∀ {ps : List Type} {k : Ks αs ps} {Γp : RTs K ps} {as : Env ps} {vs : List V}, AOk Γ s σ G k Γp as vs → vs.length = ps.length
  | _, .nil, _, _, _, h => by cases (show _ = [] from h); rfl
  | _, .v k, _, _, _, h => by
    obtain ⟨v, r, rfl, _, _, h⟩ := h
    simp [AOk.len h]
  | _, .m x k, _, _, _, h => by
    obtain ⟨v, r, rfl, _, _, _, _, h⟩ := h
    simp [AOk.len h]
theorem AOk.var {K : Fr} {Γ : RTs K αs} {s : Env αs} {σ : L2.St} {G : Hp} : ∀ {ps : List Type} {k : Ks αs ps} {Γp : RTs K ps} {as : Env ps} {vs : List V}, AOk Γ s σ G k Γp as vs → ∀ (β : Type) (z : Var ps β), ∃ v, vs[z.idx]? = some v ∧
    ((k.sl z.idx = none ∧ (z.rt Γp).fix = true ∧ ∀ b, z.get as = some b → (z.rt Γp).shr G v b) ∨ ∃ (x : Var αs β) (a : β), k.sl z.idx = some x.idx ∧ Sub (x.rt Γ) (z.rt Γp) ∧ (x.rt Γ).fix = false ∧ σ[x.idx]? = some (some v) ∧ x.get s = some a ∧ z.get as = some a)
  | _, .nil, _, _, _, _, _, z => nomatch z
  | _, .v k, _, _, _, h, β, z => by
    obtain ⟨v, r, rfl, h1, h2, h⟩ := h
    cases z with
    | vz => exact ⟨v, rfl, .inl ⟨rfl, h1, h2⟩⟩
    | vs z =>
      obtain ⟨u, h3, h4⟩ := AOk.var h β z
      exact ⟨u, by simpa [Var.idx] using h3, h4⟩
  | _, .m x k, _, _, _, h, β, z => by
    obtain ⟨v, r, rfl, h1, h2, h3, ⟨a, h4, h5⟩, h⟩ := h
    cases z with
    | vz => exact ⟨v, rfl, .inr ⟨x, a, rfl, h1, h2, h3, h4, h5⟩⟩
    | vs z =>
      obtain ⟨u, h3, h4⟩ := AOk.var h β z
      exact ⟨u, by simpa [Var.idx] using h3, h4⟩
/-- the slots that a def may change keep their kind -/
def OM {K : Fr} : {ps : List Type} → Ks αs ps → RTs K ps → RTs K ps → Prop
  | _, .nil, _, _ => True
  | _, .v k, Γ, Δ => OM k Γ.2 Δ.2
  | α :: _, .m _ k, Γ, Δ => (show RT K α from Δ.1) = Γ.1 ∧ OM k Γ.2 Δ.2
theorem OM.get {K : Fr} : ∀ {ps : List Type} {k : Ks αs ps} {Γ Δ : RTs K ps}, OM k Γ Δ → ∀ (β : Type) (z : Var ps β), k.sl z.idx ≠ none → z.rt Δ = z.rt Γ
  | _, .nil, _, _, _, _, z, _ => nomatch z
  | _, .v k, Γ, Δ, h, β, z, n => by
    cases z with
    | vz => exact absurd rfl n
    | vs z => exact OM.get (k := k) h β z n
  | _, .m x k, Γ, Δ, h, β, z, n => by
    cases z with
    | vz => exact h.1
    | vs z => exact OM.get (k := k) h.2 β z n
theorem Ok.call {C : C0} {s : Env αs} {σ : L2.St} {G H : Hp} {o : Addr → Option Nat} (k : Ok C Γ s σ G H o) {ps : List Type} (κ : Ks αs ps) (nd : κ.ixs.Nodup) {Γp Γo : RTs X.K ps} (om : OM κ Γp Γo) {as : Env ps} {vs : List V} (a : AOk Γ s σ G κ Γp as vs) :
    ∃ oc : Addr → Option Nat, Ok (reC G H oc) Γp as (vs.map some) G H oc ∧ ∀ (as' : Env ps) (G' H' : Hp) (o' : Addr → Option Nat), Ok (reC G H oc) Γo as' (vs.map some) G' H' o' →
      ∃ o2, Ok C Γ (κ.put as' s) σ G' H' o2 ∧ Kp Γ s (κ.put as' s) ∧ ∀ B, Tmp (reC G H oc) B G' H' o' → Tmp C B G' H' o2 := by
  have hoc : ∀ a, (o a).bind κ.at_ ≠ none → o a ≠ none := fun a h e => h (by rw [e]; rfl)
  have get_vs : ∀ {i : Nat} {v : V}, vs[i]? = some v → (vs.map some)[i]? = some (some v) := fun h => by rw [List.getElem?_map, h]; rfl
  have of_vs : ∀ {i : Nat} {v u : V}, vs[i]? = some v → (vs.map some)[i]? = some (some u) → u = v := fun h h' => by
    rw [List.getElem?_map, h] at h'; cases h'; rfl
  refine ⟨fun a => (o a).bind κ.at_, ⟨Ex.refl _, k.gh, fun _ _ _ h => h, fun _ _ _ h => h, fun _ h => h, fun _ _ h _ => h, fun b hb => ⟨(k.own b (hoc b hb)).1, (k.own b (hoc b hb)).2.1, .inl hb⟩, by rw [List.length_map]; exact a.len, fun β z b hz => ?_⟩, fun as' G' H' o' k' => ?_⟩
  · obtain ⟨v, h1, h2⟩ := a.var β z
    refine ⟨v, get_vs h1, ?_⟩
    rcases h2 with ⟨_, h3, h4⟩ | ⟨x, y, h3, h4, h5, h6, h7, h8⟩
    · exact (cpy_of h3 _ _ _ _ _).mpr (h4 b hz)
    · have hyb : y = b := by rw [h8] at hz; exact Option.some.inj hz
      subst hyb
      obtain ⟨v', e, r⟩ := k.sl β x y h7
      rw [h6] at e; cases e
      refine (z.rt Γp).wid (h4.to r) fun q hq => ?_
      have hq' : o q = some x.idx := hq
      show (o q).bind κ.at_ = some z.idx
      rw [hq']
      exact κ.sl_at nd h3
  · have rev : ∀ b, ((o b).bind κ.at_ ≠ none ∨ H b = none) → C.M0 b ∨ C.H0 b = none := fun b h => by
      rcases h with h | h
      · exact k.free (.inl (hoc b h))
      · exact k.free (.inr h)
    have nM : ∀ b u, ¬ C.M0 b → C.H0 b = some u → ¬ (o b).bind κ.at_ ≠ none := fun b u n h z => by
      rcases k.free (H := H) (.inl (hoc b z)) with q | q
      · exact n q
      · rw [q] at h; cases h
    have keep : ∀ b i, o b = some i → κ.at_ i = none → (o b).bind κ.at_ = none ∧ o' b = none := fun b i h1 h2 => by
      have e : (o b).bind κ.at_ = none := by rw [h1]; exact h2
      refine ⟨e, ?_⟩
      cases z : o' b with
      | none => rfl
      | some j =>
        rcases (k'.own b (by rw [z]; simp)).2.2 with w | w
        · exact absurd e w
        · obtain ⟨_, ⟨ob, h, _⟩, _⟩ := k.own b (by rw [h1]; simp)
          have w' : H b = none := w
          rw [h] at w'; cases w'
    refine ⟨fun b => match (o' b).bind κ.sl with
      | some i => some i
      | none => if (o b).bind κ.at_ = none then o b else none, ?_, ?_, fun B tB b hb => ?_⟩
    · refine ⟨k.g.trans k'.g, k'.gh, fun b n h0 g0 => ?_, fun b ob n h0 => k'.fr b ob (nM b ob n h0) (k.fr b ob n h0), fun b h0 => k'.dom b (k.dom b h0), fun b ob h0 i => k'.imm b ob (k.imm b ob h0 i) i, fun b hb => ?_, k.len, fun β y b hy => ?_⟩
      · cases q : C.H0 b with
        | none => exact absurd q h0
        | some u => exact k'.new b (nM b u n q) (k.dom b h0) (k.new b n h0 g0)
      · cases q : (o' b).bind κ.sl with
        | some i =>
          have ne : o' b ≠ none := fun e => by rw [e] at q; cases q
          obtain ⟨h1, h2, h3⟩ := k'.own b ne
          exact ⟨h1, h2, rev b h3⟩
        | none =>
          simp only [q] at hb
          by_cases hz : (o b).bind κ.at_ = none
          · rw [if_pos hz] at hb
            obtain ⟨h1, ⟨ob, h2, h3⟩, h4⟩ := k.own b hb
            have nm : ¬ (reC G H fun a => (o a).bind κ.at_).M0 b := fun w => w hz
            exact ⟨k'.new b nm (by show H b ≠ none; rw [h2]; simp) h1, ⟨ob, k'.fr b ob nm h2, h3⟩, h4⟩
          · rw [if_neg hz] at hb; exact absurd rfl hb
      · rcases κ.put_get as' s β y with ⟨z, h1, h2⟩ | ⟨h1, h2⟩
        · rw [h2] at hy
          obtain ⟨v, h3, h4⟩ := a.var β z
          rcases h4 with ⟨h5, _⟩ | ⟨x, w, h5, h6, h7, h8, h9, h10⟩
          · rw [h5] at h1; cases h1
          · rw [h5] at h1
            have exy : x = y := Var.idx_inj x y (Option.some.inj h1)
            subst exy
            obtain ⟨u, e1, r1⟩ := k'.sl β z b hy
            cases of_vs h3 e1
            obtain ⟨u', e2, r2⟩ := k.sl β x w h9
            rw [h8] at e2; cases e2
            rw [om.get β z (by rw [h5]; simp)] at r1
            refine ⟨v, h8, (x.rt Γ).wid (h6.of r2 r1) fun q hq => ?_⟩
            have hq' : o' q = some z.idx := hq
            have e3 : (o' q).bind κ.sl = some x.idx := by rw [hq']; exact h5
            simp only [e3]
        · rw [h2] at hy
          obtain ⟨v, e, r⟩ := k.sl β y b hy
          refine ⟨v, e, (y.rt Γ).wid ((y.rt Γ).grow r k'.g fun q hq => ?_) fun q hq => ?_⟩
          · have hq' : o q = some y.idx := hq
            obtain ⟨e1, _⟩ := keep q _ hq' h1
            obtain ⟨_, ⟨ob, h3, _⟩, _⟩ := k.own q (by rw [hq']; simp)
            rw [h3, k'.fr q ob (fun w => w e1) h3]
          · have hq' : o q = some y.idx := hq
            obtain ⟨e1, e2⟩ := keep q _ hq' h1
            simp only [e2, Option.bind_none, e1, if_true]
            exact hq'
    · intro β y hf
      rcases κ.put_get as' s β y with ⟨z, h1, h2⟩ | ⟨h1, h2⟩
      · obtain ⟨v, h3, h4⟩ := a.var β z
        rcases h4 with ⟨h5, _⟩ | ⟨x, w, h5, h6, h7, h8, h9, h10⟩
        · rw [h5] at h1; cases h1
        · rw [h5] at h1
          have exy : x = y := Var.idx_inj x y (Option.some.inj h1)
          subst exy
          rw [h7] at hf; cases hf
      · exact h2
    · obtain ⟨h1, h2, h3, h4⟩ := tB b hb
      refine ⟨?_, h2, h3, rev b h4⟩
      simp only [h1, Option.bind_none]
      by_cases hz : (o b).bind κ.at_ = none
      · rw [if_pos hz]
        rcases h4 with w | w
        · exact absurd hz w
        · cases q : o b with
          | none => rfl
          | some i =>
            obtain ⟨_, ⟨ob, h, _⟩, _⟩ := k.own b (by rw [q]; simp)
            have w' : H b = none := w
            rw [h] at w'; cases w'
      · rw [if_neg hz]
/-- the program of a call -/
def mCall {ps : List Type} (κ : Ks αs ps) (f : Env ps → Option (ρ × Env ps)) (ma : M αs (Env ps)) : M αs ρ := fun s => (ma s).bind fun p => (f p.1).bind fun q => some (q.1, κ.put q.2 p.2)
theorem XE.callSp {ps : List Type} {Γp Γo : RTs X.K ps} {R : RT X.K ρ} {f : Env ps → Option (ρ × Env ps)} (κ : Ks αs ps) {ma : M αs (Env ps)} (nd : κ.ixs.Nodup) (om : OM κ Γp Γo) (hpe : PE X e (fun σ H Q => wA X es σ H fun vs H1 => spF ⟨ps, Γp, Γo, ρ, R, f⟩ vs H1 Q E0)) (ha : XA X Γ es κ Γp ma) :
    XE X Γ e R (mCall κ f ma) := by
  intro C s σ G H o k x s' hm Q q
  obtain ⟨⟨as, s1⟩, e1, e2⟩ := bindE hm
  obtain ⟨⟨r, as'⟩, e3, e4⟩ := bindE e2
  cases e4
  refine wE_of hpe ?_
  refine ha C s σ G H o k as s1 e1 _ fun vs G1 H1 o1 k1 g1 kp r1 => ?_
  obtain ⟨oc, k2, back⟩ := k1.call κ nd om r1
  refine ⟨G1, oc, as, _, as', k2, e3, fun v G' H' o' B k' rr t => ?_⟩
  obtain ⟨o2, k3, kp3, tB⟩ := back as' G' H' o' k'
  exact q v G' H' o2 B k3 (g1.trans k'.g) (kp.trans kp3) rr (tB B t)
/-- f(e, ..) -/
theorem XE.call {CX : CXT} [NoX CX] {ps : List Type} {Γp Γo : RTs X.K ps} {R : RT X.K ρ} {f : Env ps → Option (ρ × Env ps)} (κ : Ks αs ps) {ma : M αs (Env ps)} {fn : Addr} {fd : FuncData} {qs : List Str} {n : Nat} {x : Str} {p : Pos}
    (F : FnOk X.prog X.w X.K X.mg X.base CX n fn fd qs (spF ⟨ps, Γp, Γo, ρ, R, f⟩)) (hr : Room n X.A) (hg : Gl X x) (hm : X.mg x = some (.ref fn)) (hk : PySem.W.keepIn X.K (.ref fn) = true) (hb : Binds X.K fd qs []) (ha : XA X Γ (e :: es) κ Γp ma)
    (nd : κ.ixs.Nodup := by decide) (om : OM κ Γp Γo) (hdb : (x == ("__debug__" : Str)) = false := by decide) (he : starEach (e :: es) X.env = (false, eval e X.env) :: starEach es X.env := by rfl) (hpl : (backTo pos (starEach es X.env)).any (·.1) = false := by rfl) :
    XE X Γ (.Call (.Name x p) (e :: es) [] pos) R (mCall κ f ma) := by
  have h : PE X (.Call (.Name x p) (e :: es) [] pos) (tCall (spF ⟨ps, Γp, Γo, ρ, R, f⟩) [] E0 (wA X (e :: es))) := pe_call F hr hg hm hk hb .nil passE pa_w hdb he hpl
  refine XE.callSp κ nd om ⟨fun pins s σ H Q I hq => h.run pins s σ H Q I ?_⟩ ha
  intro pos pins s I
  exact thn (hq pos pins s I) fun us s' ⟨vs, H', I', r, q⟩ => ⟨vs, H', I', r, by show spF _ (vs ++ []) H' Q E0; rw [List.append_nil]; exact q⟩
end
end Sm
/-! S10: the script, further calls, the law's end. -/
namespace Sm
open PySem PySem.Spec L2
open Enc (enc)

section
variable {X : Cx} {αs : List Type} {Γ Γ1 Γ2 Γ' Γt : RTs X.K αs} {α β γ ρ : Type} {e a b c tg iter : Expr} {es : List Expr} {pos apos cpos : Pos}
/-! ### the script -/
def RT.scr (K : Fr) : RT K (List Int) where
  rel := fun G _ v ns _ => ∃ a, v = .ref a ∧ SqL K G a (ns.map V.int)
  shr := fun G v ns => ∃ a, v = .ref a ∧ SqL K G a (ns.map V.int)
  fix := true
  grow := fun ⟨a, e, h⟩ g _ => ⟨a, e, g.l h⟩
  view := fun ⟨a, e, h⟩ g _ => ⟨a, e, g.l h⟩
  smono := fun ⟨a, e, h⟩ g => ⟨a, e, g.l h⟩
  wid := fun h _ => h
  ok := .inl ⟨rfl, fun _ _ _ _ _ => Iff.rfl⟩
theorem atI_map {α β : Type} (f : α → β) (xs : List α) (i : Int) : atI (xs.map f) i = (atI xs i).map f := by
  unfold atI
  rw [List.length_map]
  cases ixN xs.length i with
  | none => rfl
  | some j =>
    show (xs.map f)[j]? = (xs[j]?).map f
    rw [List.getElem?_map]
theorem XE.idxScr {ma : M αs (List Int)} {mb : M αs Int} (ha : XE X Γ a (RT.scr X.K) ma) (hb : XE X Γ b (RT.dat X.K Int) mb) (hs : PlainIx b := by exact fun _ _ => rfl) : XE X Γ (.Subscript a b pos) (RT.dat X.K Int) (m2 Sm.idx ma mb) :=
  .bin (r := rIxL X.K) (pe_ix ix_list pe_w pe_w hs) ha hb rfl rfl fun G H v u x y z Q e hx hy hz q => by
    obtain ⟨p, rfl, hp⟩ := hx
    cases dq_int hy
    refine ⟨p, x.map V.int, y, .int z, rfl, rfl, e.l hp, ?_, here (z := z) e (.int _) q⟩
    rw [atI_map, show atI x y = some z from (idx_eq _ _).symm.trans hz]; rfl
theorem XE.lenScr {ma : M αs (List Int)} {p : Pos} (hg : Gl X "len") (hm : X.mg "len" = none) (ha : XE X Γ a (RT.scr X.K) ma)
    (he : starEach [a] X.env = [(false, eval a X.env)] := by rfl) : XE X Γ (.Call (.Name "len" p) [a] [] pos) (RT.dat X.K Int) (m1 ilen ma) :=
  .un (r := fun v H Q => ∃ p ys, [v] = [V.ref p] ∧ (SqL X.K H p ys ∨ SqT X.K H p ys) ∧ Q (.int ys.length) H) (pe_callB call_len_seq hg hm PySem.boot_len (pa_cons pe_w pa_nil he) (he := he)) ha rfl fun G H v x z Q e hx hz q => by
    cases hz
    obtain ⟨p, rfl, hp⟩ := hx
    exact ⟨p, _, rfl, .inl (e.l hp), by rw [List.length_map]; exact here (z := (x.length : Int)) e (.int _) q⟩
theorem XI.scr {ma : M αs (List Int)} (ha : XE X Γ iter (RT.scr X.K) ma) : XI X Γ tg iter (RT.dat X.K Int) ma := by
  intro C s σ G H o k xs s' hm Rw q
  refine wI_of (pi_list pe_w) ?_
  refine ha C s σ G H o k xs s' hm _ fun v G1 H1 o1 B k1 g1 kp r t => ?_
  obtain ⟨p, rfl, hp⟩ := r
  refine ⟨p, rfl, ⟨_, k1.gh.l hp⟩, q _ G1 H1 o1 k1 g1 kp ⟨fun i y H hy e => ?_, fun H e => ⟨_, e.l hp, by rw [List.length_map]; exact Nat.le_refl _⟩, fun i y G2 H x H' hy e e2 yl => ?_⟩⟩
  · exact ⟨_, .int y, e.l hp, by rw [List.getElem?_map, hy]; rfl⟩
  · obtain ⟨rfl, yl⟩ := yl
    have h := yl _ (e2.l (e.l hp))
    rw [List.getElem?_map, hy] at h
    cases h
    exact ⟨G2, .refl e2, .int _⟩

theorem XE.neg {ma : M αs Int} (ha : XE X Γ a (RT.dat X.K Int) ma) : XE X Γ (.UnaryOp .USub a pos) (RT.dat X.K Int) (m1 ineg ma) :=
  .un (r := rU fun i => .int (-i)) (pe_un un_neg pe_w) ha rfl fun G H v x z Q e hx hz q => by
    cases hz
    cases dq_int hx
    exact ⟨x, rfl, here (z := -x) e (.int _) q⟩
/-! ### one's own as data -/
theorem XE.dat [Enc α] [PureE α] {m : M αs (List α)} (h : XE X Γ e (RT.own X.K α) m) : XE X Γ e (RT.dat X.K (List α)) m := XE.freeze h

/-! ### l.index(x), l.count(x) -/
theorem idx_first [Enc α] [DecidableEq α] [EqE α] {xs : List α} {x : α} {j : Nat} (h : xs.findIdx? (· = x) = some j) : ∃ z, (xs.map enc)[j]? = some z ∧ PyData.eqv z (enc x) = true ∧ ∀ (m : Nat) (z' : PyData), m < j → (xs.map enc)[m]? = some z' → PyData.eqv z' (enc x) = false := by
  obtain ⟨hj, h1, h2⟩ := List.findIdx?_eq_some_iff_getElem.mp h
  refine ⟨enc xs[j], by rw [List.getElem?_map, List.getElem?_eq_getElem hj]; rfl, by rw [EqE.eqv]; simpa using h1, fun m z' hm hz => ?_⟩
  have hm' : m < xs.length := by omega
  rw [List.getElem?_map, List.getElem?_eq_getElem hm'] at hz
  cases hz
  rw [EqE.eqv]
  have := h2 m hm
  simpa using this
theorem XE.index [Enc α] [DecidableEq α] [EqE α] [Lay α] {ma : M αs (List α)} {mb : M αs α} (ha : XE X Γ a (RT.dat X.K (List α)) ma) (hb : XE X Γ b (RT.dat X.K α) mb) (hu : X.A.units + 65 < cLine)
    (hp : PE X (.Call (.Attribute a "index" apos) [b] [] cpos) (tBM X.K "list" (rIndexD X.K) (wE X a) (tCons (wE X b) tNil)) := by exact pe_bm PySem.F.plainAttrs_list PySem.F.slot_list_index PySem.F.type_list_index (mt_indexD (by assumption)) pe_w (pa_cons pe_w pa_nil)) (hd : Lay.dep α + 1 ≤ 64 := by decide) :
    XE X Γ (.Call (.Attribute a "index" apos) [b] [] cpos) (RT.dat X.K Int) (m2 indexOf ma mb) := by
  intro C s σ G H o k z s' hm Q q
  obtain ⟨x, s1, y, h1, h2, h3⟩ := m2E hm
  obtain ⟨j, h4, h5⟩ := Option.map_eq_some_iff.mp h3
  subst h5
  refine wE_of hp ?_
  refine ha C s σ G H o k x s1 h1 _ fun v G1 H1 o1 B k1 g1 kp r1 t1 => ?_
  obtain ⟨p, vs, rfl, hp', hr⟩ := dq_list r1
  refine ⟨.inl ⟨rfl, vs, SqL.of (k1.gh _ _ hp')⟩, ?_⟩
  refine hb C s1 σ G1 H1 o1 k1 y s' h2 _ fun u G2 H2 o2 B' k2 g2 kp2 r2 t2 => ?_
  obtain ⟨w, h6, h7, h8⟩ := idx_first h4
  refine ⟨p, u, enc y, x.map enc, j, w, rfl, rfl, dq_dp (dq_mono (g2.trans k2.gh) r1), dq_dp (dq_mono k2.gh r2), shaped_enc (α := List α) hd x, shaped_enc (Nat.le_of_succ_le hd) y, h6, h7, h8, ?_⟩
  exact q _ G2 H2 o2 (fun _ => False) k2 (g1.trans g2) (kp.trans kp2) (show Dq X.K G2 _ (.int _) from .int _) tmp0
def rCountD (K : PySem.W.Frag) : V → List V → Hp → VK → Prop := fun x xs H Q => ∃ (a : Addr) (y : V) (d : PyData) (ds : List PyData), x = V.ref a ∧ xs = [y] ∧ Dp K H (V.ref a) (.list ds) ∧ Dp K H y d ∧
  SeqAt.shaped (.list ds) = true ∧ SeqAt.shaped d = true ∧ Q (.int ((ds.countP fun z => PyData.eqv z d : Nat) : Int)) H
theorem mt_countD (hu : X.A.units + 65 < cLine) : MtR X "list.count" (rCountD X.K) := by
  intro pins s σ H x xs v us Q I rx rxs h
  obtain ⟨a, y, d, ds, rfl, rfl, hl, hy, sl, sd, q⟩ := h
  cases rx
  cases rxs with
  | cons ry rt =>
    rename_i uy ut
    cases rt
    obtain ⟨bs, r1⟩ := Dp.reads I d y uy hy ry
    have hxs : PyData.canLayAll0 ds = true := SeqAt.canLay_of_shaped sl
    have hroom : X.A.units + 1 + min (PyData.depthAll ds) d.depth < cLine := PyProof.Rows.room_in_shaped sd hu
    cases hl with
    | lst hs ha =>
      obtain ⟨its, rv, ⟨⟨cls, dd, data, sls⟩, n, ho, hc, hdn, hdt⟩, hlen⟩ := I.list hs
      simp only at hc hdt
      subst hc hdt
      obtain ⟨as, h4⟩ := Dp.readsAll I ds _ its ha rv
      have hmap : its.map (SeqAt.readOf s.heap) = ds := SeqAt.readsAll_map ds its as hxs h4
      refine call_meets PySem.F.slot_list_count ⟨_, ho, rfl⟩ PySem.F.entry_list_count (PySem.F.args_list_count_2 _ _)
        (SeqAt.list_countAt a its.toArray n dd sls uy (fun u => PyData.eqv (SeqAt.readOf s.heap u) d)) ⟨ho, SeqAt.items_eqAt (vs := its.toArray) (show ReadsAll s.heap its.toArray.toList ds as from h4) r1 hxs (SeqAt.canLay_of_shaped sd) hroom, ?_⟩
      refine ⟨.int _, H, I.tok _, ⟨_, rfl⟩, ?_⟩
      have e : its.toArray.toList.countP (fun u => PyData.eqv (SeqAt.readOf s.heap u) d) = ds.countP fun z => PyData.eqv z d := by
        rw [← hmap, List.countP_map]
        rfl
      rw [e]
      exact q
theorem cnt_enc [Enc α] [DecidableEq α] [EqE α] (x : α) : ∀ xs : List α, (xs.map enc).countP (fun z => PyData.eqv z (enc x)) = (xs.filter (· = x)).length
  | [] => rfl
  | y :: ys => by
    rw [List.map_cons, List.countP_cons, cnt_enc x ys, EqE.eqv, List.filter_cons]
    by_cases h : y = x
    · simp [h]
    · simp [h]
theorem XE.count [Enc α] [DecidableEq α] [EqE α] [Lay α] {ma : M αs (List α)} {mb : M αs α} (ha : XE X Γ a (RT.dat X.K (List α)) ma) (hb : XE X Γ b (RT.dat X.K α) mb) (hu : X.A.units + 65 < cLine)
    (hp : PE X (.Call (.Attribute a "count" apos) [b] [] cpos) (tBM X.K "list" (rCountD X.K) (wE X a) (tCons (wE X b) tNil)) := by exact pe_bm PySem.F.plainAttrs_list PySem.F.slot_list_count PySem.F.type_list_count (mt_countD (by assumption)) pe_w (pa_cons pe_w pa_nil)) (hd : Lay.dep α + 1 ≤ 64 := by decide) :
    XE X Γ (.Call (.Attribute a "count" apos) [b] [] cpos) (RT.dat X.K Int) (m2 cnt ma mb) := by
  intro C s σ G H o k z s' hm Q q
  obtain ⟨x, s1, y, h1, h2, h3⟩ := m2E hm
  cases h3
  refine wE_of hp ?_
  refine ha C s σ G H o k x s1 h1 _ fun v G1 H1 o1 B k1 g1 kp r1 t1 => ?_
  obtain ⟨p, vs, rfl, hp', hr⟩ := dq_list r1
  refine ⟨.inl ⟨rfl, vs, SqL.of (k1.gh _ _ hp')⟩, ?_⟩
  refine hb C s1 σ G1 H1 o1 k1 y s' h2 _ fun u G2 H2 o2 B' k2 g2 kp2 r2 t2 => ?_
  refine ⟨p, u, enc y, x.map enc, rfl, rfl, dq_dp (dq_mono (g2.trans k2.gh) r1), dq_dp (dq_mono k2.gh r2), shaped_enc (α := List α) hd x, shaped_enc (Nat.le_of_succ_le hd) y, ?_⟩
  rw [cnt_enc]
  exact q _ G2 H2 o2 (fun _ => False) k2 (g1.trans g2) (kp.trans kp2) (show Dq X.K G2 _ (.int _) from .int _) tmp0

/-! ### isinstance -/
def isT {α : Type} (b : Bool) (_ : α) : Option Bool := some b
theorem XE.isinst [Enc α] {ma : M αs α} {T : Str} {t : String} {T' : String} {r : Bool} {p p2 : Pos} (hty : ∀ (G : Hp) (v : V) (x : α), Dq X.K G v (enc x) → TyX X.K G v (.type T')) (hk : kitB T' t = some r) (hg : Gl X "isinstance") (hm : X.mg "isinstance" = none) (hg2 : Gl X T) (hm2 : X.mg T = none) (hv2 : bootBuiltins T = some (.type t))
    (ha : XE X Γ a (RT.dat X.K α) ma) (hn : T ≠ "__name__" := by decide) (hd : (T == ("__debug__" : Str)) = false := by decide) (he : starEach [a, .Name T p2] X.env = [(false, eval a X.env), (false, eval (.Name T p2) X.env)] := by rfl) (he2 : starEach [.Name T p2] X.env = [(false, eval (.Name T p2) X.env)] := by rfl) :
    XE X Γ (.Call (.Name "isinstance" p) [a, .Name T p2] [] pos) (RT.dat X.K Bool) (m1 (isT r) ma) :=
  .un (r := fun v H Q => rIsi X.K [v, .ty t] H Q) (pe_callB call_isi hg hm (by decide +kernel) (pa_cons pe_w (pa_cons (pe_bltn (v := .ty t) hg2 hm2 hv2 rfl hn hd) pa_nil he2) (by rw [he, he2])) (he := by rw [he, he2]) (hpl := by rw [he2]; rfl)) ha rfl fun G H v x z Q e hx hz q => by
    cases hz
    exact ⟨v, .ty t, .type T', .type t, r, rfl, .ty t, hty H v x (dq_mono e hx), kit_ty hk, here (z := r) e (.bl _) q⟩
theorem ty_int {K : Fr} (G : Hp) (v : V) (x : Int) (h : Dq K G v (enc x)) : TyX K G v (.type "int") := by
  cases dq_int h
  exact .base (.int x)
theorem ty_bl {K : Fr} (G : Hp) (v : V) (x : Bool) (h : Dq K G v (enc x)) : TyX K G v (.type "bool") := by
  cases dq_bl h
  exact .base (.bl x)
theorem ty_lst {K : Fr} [Enc α] (G : Hp) (v : V) (x : List α) (h : Dq K G v (enc x)) : TyX K G v (.type "list") := by
  obtain ⟨p, vs, rfl, hp, _⟩ := dq_list h
  exact .base (.lst hp)
end

/-! ### small things -/
theorem len0 {vs : List V} (h : vs.length = 0) : vs = [] := List.length_eq_zero_iff.mp h
theorem len1 {vs : List V} (h : vs.length = 1) : ∃ a, vs = [a] := match vs, h with | [a], _ => ⟨a, rfl⟩
theorem len2 {vs : List V} (h : vs.length = 2) : ∃ a b, vs = [a, b] := match vs, h with | [a, b], _ => ⟨a, b, rfl⟩
theorem len3 {vs : List V} (h : vs.length = 3) : ∃ a b c, vs = [a, b, c] := match vs, h with | [a, b, c], _ => ⟨a, b, c, rfl⟩
theorem len4 {vs : List V} (h : vs.length = 4) : ∃ a b c d, vs = [a, b, c, d] := match vs, h with | [a, b, c, d], _ => ⟨a, b, c, d, rfl⟩
theorem len5 {vs : List V} (h : vs.length = 5) : ∃ a b c d e, vs = [a, b, c, d, e] := match vs, h with | [a, b, c, d, e], _ => ⟨a, b, c, d, e, rfl⟩
theorem len6 {vs : List V} (h : vs.length = 6) : ∃ a b c d e f, vs = [a, b, c, d, e, f] := match vs, h with | [a, b, c, d, e, f], _ => ⟨a, b, c, d, e, f, rfl⟩
theorem len7 {vs : List V} (h : vs.length = 7) : ∃ a b c d e f g, vs = [a, b, c, d, e, f, g] := match vs, h with | [a, b, c, d, e, f, g], _ => ⟨a, b, c, d, e, f, g, rfl⟩
theorem len8 {vs : List V} (h : vs.length = 8) : ∃ a b c d e f g i, vs = [a, b, c, d, e, f, g, i] := match vs, h with | [a, b, c, d, e, f, g, i], _ => ⟨a, b, c, d, e, f, g, i, rfl⟩
def fixL {K : Fr} : {αs : List Type} → RTs K αs → Nat → List Nat → Bool
  | [], _, _, _ => true
  | α :: _, Γ, i, vs => (!(vs.contains i) || (show RT K α from Γ.1).fix) && fixL Γ.2 (i + 1) vs
theorem fixL_at {K : Fr} {vs : List Nat} : ∀ {αs : List Type} {Γ : RTs K αs} {i : Nat}, fixL Γ i vs = true → ∀ (γ : Type) (x : Var αs γ), i + x.idx ∈ vs → (x.rt Γ).fix = true
  | _, Γ, i, h, _, .vz, m => by
    have h' := (Bool.and_eq_true_iff.mp h).1
    have m' : vs.contains i = true := List.contains_iff_mem.mpr (by simpa [Var.idx] using m)
    rw [m'] at h'
    exact h'
  | _, Γ, i, h, γ, .vs x, m => by
    refine fixL_at (i := i + 1) (Bool.and_eq_true_iff.mp h).2 γ x ?_
    have e : i + 1 + x.idx = i + (x.idx + 1) := by omega
    rw [e]
    exact m
theorem fixAt {K : Fr} {αs : List Type} {Γ : RTs K αs} {vs : List Nat} (h : fixL Γ 0 vs = true) : ∀ (γ : Type) (x : Var αs γ), x.idx ∈ vs → (x.rt Γ).fix = true := fun γ x m => fixL_at h γ x (by rw [Nat.zero_add]; exact m)

/-! ### the end -/
def lawFs (K : Fr) (f : Env [List Int] → Option (Bool × Env [List Int])) : Fs K :=
  { ps := [List Int], Γp := ((RT.scr K, ()) : RT K (List Int) × Unit), Γo := ((RT.dead K (List Int), ()) : RT K (List Int) × Unit), ρ := Bool, R := RT.dat K Bool, f := f }
theorem lawFs_ok {K : Fr} {f : Env [List Int] → Option (Bool × Env [List Int])} {H : Hp} {a : Addr} {ns : List Int} {s' : Env [List Int]} {E : XK} (hS : SqL K H a (ns.map V.int)) (hs : f ((some ns, ()) : Option (List Int) × Unit) = some (true, s')) :
    spF (lawFs K f) [.ref a] H (fun v _ => v = .bl true) E := by
  refine ⟨H, fun _ => none, ((some ns, ()) : Option (List Int) × Unit), true, s', ⟨Ex.refl _, Ex.refl _, fun _ _ _ h => h, fun _ _ _ h => h, fun _ h => h, fun _ _ h _ => h, fun _ h => absurd rfl h, rfl, fun α x y hy => ?_⟩, hs, fun v G' H' o' B _ r _ => dq_bl r⟩
  cases x with
  | vz =>
    have hy' : some ns = some y := hy
    cases hy'
    exact ⟨_, rfl, a, rfl, hS⟩
  | vs x => exact nomatch x
theorem law_walk {l : PySem.W.OpenLaw} {q : Program} {loose : List Str} {XP : (Str → Option Value) → Heap → Prop} {YP : World → Heap → Prop} {d : DefRec} {K : PySem.Params → Fr} {f : Env [List Int] → Option (Bool × Env [List Int])} {k : Nat} (hn : l.most = some 63) (hdf : d.params.defaults = []) (hr : Room k callerA)
    (hY : ∀ (w : World) (h : Heap), YP w h → (K w.params).In h)
    (F : ∀ (w : World) (mg : Str → Option Value) (fa : Addr) (h : Heap), (K w.params).In h → h.Ns mainGlobals mg → mg d.name = some (.ref fa) →
      ∃ fd : FuncData, (∀ (s : Shared) (u : Value), BindsTo s fd ⟨[u], []⟩ [("script", u)]) ∧ ∀ base : Heap, (K w.params).In base → base.Ns mainGlobals mg → FnOk l.prog w (K w.params) mg base CX0 k fa fd ["script"] (spF (lawFs (K w.params) f)))
    (hf : ∀ ns : List Int, ns.length ≤ 63 → ∃ s', f ((some ns, ()) : Option (List Int) × Unit) = some (true, s')) :
    PySem.W.WalkO q loose XP YP l.row.toRowW d [] (fun f vs => PySem.call f vs) :=
  L2.walk_of (n := 63) (k := k) (x := "script") (CX := fun _ => CX0) (sp := fun w => spF (lawFs (K w.params) f)) hn (by decide) hdf hr hY F (fun w H a ns hl _ hS => by
    obtain ⟨s', hs⟩ := hf ns hl
    exact lawFs_ok hS hs) fun _ _ _ _ _ z => z
end Sm
/-! S11: what the programs over an environment reckon (plain Lean). -/
namespace Sm
open PySem PySem.Spec L2
open Enc (enc)

section
variable {αs : List Type} {α β γ ρ : Type}
theorem idx_nat {xs : List α} {j : Nat} {v : α} (h : xs[j]? = some v) : idx xs (j : Int) = some v := (idx_eq _ _).trans (atI_nat h)
theorem ixN_nat {n j : Nat} (h : j < n) : ixN n (j : Int) = some j := by
  unfold ixN
  rw [if_pos (by omega), if_pos (by omega)]; simp
theorem idx_at {xs : List α} {j : Nat} (h : j < xs.length) : idx xs (j : Int) = some xs[j] := idx_nat (List.getElem?_eq_getElem h)
theorem idx0 (a : α) (xs : List α) : idx (a :: xs) 0 = some a := idx_nat (j := 0) rfl
theorem setAt_nat {xs : List α} {j : Nat} {v : α} (h : j < xs.length) : setAt xs (j : Int) v = some (xs.set j v) := by
  rw [setAt_eq, ixN_nat h]; rfl
theorem setAt0 (a b : α) (xs : List α) : setAt (a :: xs) 0 b = some (b :: xs) := setAt_nat (xs := a :: xs) (j := 0) (Nat.succ_pos _)
theorem imod_pos {i j : Int} (h : 0 < j) : imod i j = some (i % j) := (imod_eq _ _).trans (if_pos h)
theorem idiv_pos {i j : Int} (h : 0 < j) (h2 : j < 1073741824) : idiv i j = some (i / j) := (idiv_eq _ _).trans (if_pos ⟨h, h2⟩)
theorem imul_l {i j : Int} (h : -(2 ^ 64) < i ∧ i < 2 ^ 64) : imul i j = some (i * j) := (imul_eq _ _).trans (if_pos (.inl h))
theorem imul_r {i j : Int} (h : -(2 ^ 64) < j ∧ j < 2 ^ 64) : imul i j = some (i * j) := (imul_eq _ _).trans (if_pos (.inr h))
theorem lstO_ok {xs : List α} (h : xs.length ≤ 1000000) : lstO xs = some xs := (lstO_eq _).trans (if_pos h)
theorem rng_ok {n : Int} (h : -(2 ^ 62) ≤ n ∧ n < 2 ^ 62) : rng n = some ((List.range n.toNat).map fun (i : Nat) => (i : Int)) := (rng_eq _).trans (if_pos h)
theorem rng2_ok {a n : Int} (h : -(2 ^ 62) ≤ a ∧ a < 2 ^ 62 ∧ -(2 ^ 62) ≤ n ∧ n < 2 ^ 62) : rng2 a n = some ((List.range (n - a).toNat).map fun (i : Nat) => a + (i : Int)) := (rng2_eq _ _).trans (if_pos h)
theorem some_inj_bool {a b : Bool} (h : a = b) : some a = some b := by rw [h]
/-- a loop whose turns all go on -/
theorem loopF_inv {f : α → Env αs → Env αs} {m : MS αs ρ} (Inv : Nat → Env αs → Prop) : ∀ (xs : List α) (i : Nat) (s : Env αs), Inv i s → (∀ (j : Nat) (x : α) (s : Env αs), xs[j]? = some x → Inv (i + j) s → ∃ s', m (f x s) = some (.nx, s') ∧ Inv (i + j + 1) s') →
    ∃ s', loopF f m xs s = some (.nx, s') ∧ Inv (i + xs.length) s'
  | [], i, s, h, _ => ⟨s, rfl, h⟩
  | x :: xs, i, s, h, st => by
    obtain ⟨s1, h1, h2⟩ := st 0 x s rfl h
    obtain ⟨s2, h3, h4⟩ := loopF_inv Inv xs (i + 1) s1 h2 fun j y t hy ht => by
      obtain ⟨s3, h5, h6⟩ := st (j + 1) y t (by simpa using hy) (by rw [show i + (j + 1) = i + 1 + j by omega]; exact ht)
      exact ⟨s3, h5, by rw [show i + 1 + j + 1 = i + (j + 1) + 1 by omega]; exact h6⟩
    refine ⟨s2, ?_, by rw [List.length_cons, show i + (xs.length + 1) = i + 1 + xs.length by omega]; exact h4⟩
    show (m (f x s)).bind _ = _
    rw [h1]
    exact h3
/-- the same over a range -/
theorem loopF_range {f : Int → Env αs → Env αs} {m : MS αs ρ} (Inv : Nat → Env αs → Prop) (g : Nat → Int) (n : Nat) (s : Env αs) (h : Inv 0 s) (st : ∀ (j : Nat) (s : Env αs), j < n → Inv j s → ∃ s', m (f (g j) s) = some (.nx, s') ∧ Inv (j + 1) s') :
    ∃ s', loopF f m ((List.range n).map g) s = some (.nx, s') ∧ Inv n s' := by
  obtain ⟨s', h1, h2⟩ := loopF_inv (f := f) (m := m) Inv ((List.range n).map g) 0 s h fun j x t hx ht => by
    rw [List.getElem?_map] at hx
    by_cases hj : j < n
    · rw [List.getElem?_range hj] at hx
      cases hx
      obtain ⟨s', a, b⟩ := st j t hj (by rw [Nat.zero_add] at ht; exact ht)
      exact ⟨s', a, by rw [Nat.zero_add]; exact b⟩
    · rw [List.getElem?_eq_none (by simp; omega)] at hx
      cases hx
  exact ⟨s', h1, by simpa using h2⟩
/-- a comprehension -/
theorem loopC_inv {f : α → Env αs → Env αs} {rs : Env αs → Env αs → Env αs} {mt : M αs Bool} {me : M αs β} (Inv : Env αs → Prop) (P : β → Prop) (st : ∀ (x : α) (s : Env αs), Inv s → ∃ s1 y s2, mt (f x s) = some (true, s1) ∧ me s1 = some (y, s2) ∧ P y ∧ Inv (rs s s2)) :
    ∀ (xs : List α) (s : Env αs), Inv s → ∃ ys s', loopC f rs mt me xs s = some (ys, s') ∧ ys.length = xs.length ∧ (∀ y ∈ ys, P y) ∧ Inv s'
  | [], s, h => ⟨[], s, rfl, rfl, by simp, h⟩
  | x :: xs, s, h => by
    obtain ⟨s1, y, s2, h1, h2, h3, h4⟩ := st x s h
    obtain ⟨ys, s3, h5, h6, h7, h8⟩ := loopC_inv Inv P st xs _ h4
    refine ⟨y :: ys, s3, ?_, by simp [h6], ?_, h8⟩
    · show (mt (f x s)).bind _ = _
      rw [h1]
      show (me s1).bind _ = _
      rw [h2]
      show (loopC f rs mt me xs (rs s s2)).bind _ = _
      rw [h5]; rfl
    · intro z hz
      rcases List.mem_cons.mp hz with rfl | hz
      · exact h3
      · exact h7 z hz
end

/-! ### what comes out -/
def Run {α : Type} (o : Option α) (P : α → Prop) : Prop := ∃ a, o = some a ∧ P a
theorem Run.some {α : Type} {a : α} {P : α → Prop} (h : P a) : Run (some a) P := ⟨a, rfl, h⟩
theorem run_some {α : Type} {a : α} {P : α → Prop} : Run (some a) P = P a := propext ⟨fun ⟨b, e, h⟩ => by cases e; exact h, fun h => ⟨a, rfl, h⟩⟩
theorem Run.bind {α β : Type} {o : Option α} {f : α → Option β} {P : α → Prop} {Q : β → Prop} (h : Run o P) (k : ∀ a, P a → Run (f a) Q) : Run (o.bind f) Q := by
  obtain ⟨a, rfl, p⟩ := h
  exact k a p
theorem Run.mono {α : Type} {o : Option α} {P Q : α → Prop} (h : Run o P) (k : ∀ a, P a → Q a) : Run o Q := by
  obtain ⟨a, e, p⟩ := h
  exact ⟨a, e, k a p⟩
theorem Run.of {α : Type} {o : Option α} {a : α} {P : α → Prop} (h : o = .some a) (p : P a) : Run o P := ⟨a, h, p⟩
theorem Run.ite {α : Type} {c : Prop} [Decidable c] {o u : Option α} {P : α → Prop} (h1 : c → Run o P) (h2 : ¬ c → Run u P) : Run (if c then o else u) P := by
  by_cases h : c
  · rw [if_pos h]; exact h1 h
  · rw [if_neg h]; exact h2 h
theorem Run.iteB {α β : Type} {c : Prop} [Decidable c] {o u : Option α} {k : α → Option β} {P : β → Prop} (h1 : c → Run (o.bind k) P) (h2 : ¬ c → Run (u.bind k) P) : Run ((if c then o else u).bind k) P := by
  by_cases h : c
  · rw [if_pos h]; exact h1 h
  · rw [if_neg h]; exact h2 h
theorem Run.body {ps ls : List Type} {ρ : Type} {m : MS (ps ++ ls) ρ} {s : Env ps} {P : ρ × Env ps → Prop} (h : Run (m (ext ls ps s)) fun p => match p.1 with | .rt r => P (r, prj ls ps p.2) | _ => False) : Run (bodyF m s) P := by
  obtain ⟨⟨c, s'⟩, e, h⟩ := h
  unfold bodyF
  rw [e]
  cases c with
  | rt r => exact ⟨_, rfl, h⟩
  | nx => exact h.elim
  | bk => exact h.elim
  | ct => exact h.elim
section
variable {αs : List Type} {α β γ ρ : Type}
/-- a loop over a range whose turns all go on -/
theorem Run.forR {n : Int} {mi : M αs Int} {f : Int → Env αs → Env αs} {m : MS αs ρ} {s s0 : Env αs} (hm : mi s0 = .some (n, s)) (hn : -(2 ^ 62) ≤ n ∧ n < 2 ^ 62) (Inv : Nat → Env αs → Prop) (h : Inv 0 s)
    (st : ∀ (j : Nat) (s : Env αs), (j : Int) < n → Inv j s → Run (m (f (j : Int) s)) fun p => p.1 = .nx ∧ Inv (j + 1) p.2) : Run (sFor (m1 rng mi) f m s0) fun p => p.1 = .nx ∧ Inv n.toNat p.2 := by
  obtain ⟨s', h1, h2⟩ := loopF_range (f := f) (m := m) Inv (fun (i : Nat) => (i : Int)) n.toNat s h fun j s hj hi => by
    obtain ⟨⟨c, s2⟩, e, h1, h2⟩ := st j s (by omega) hi
    have h1' : c = .nx := h1
    subst h1'
    exact ⟨s2, e, h2⟩
  refine ⟨(.nx, s'), ?_, rfl, h2⟩
  show ((m1 rng mi s0).bind fun p => loopF f m p.1 p.2) = _
  have e : m1 rng mi s0 = .some ((List.range n.toNat).map fun (i : Nat) => (i : Int), s) := by
    show ((mi s0).bind fun p => (rng p.1).bind fun b => .some (b, p.2)) = _
    rw [hm]
    show ((rng n).bind fun b => .some (b, s)) = _
    rw [rng_ok hn]; rfl
  rw [e]
  exact h1
/-- a loop over a list whose turns all go on -/
theorem Run.forL {xs : List α} {mi : M αs (List α)} {f : α → Env αs → Env αs} {m : MS αs ρ} {s s0 : Env αs} (hm : mi s0 = .some (xs, s)) (Inv : Nat → Env αs → Prop) (h : Inv 0 s)
    (st : ∀ (j : Nat) (x : α) (s : Env αs), xs[j]? = .some x → Inv j s → Run (m (f x s)) fun p => p.1 = .nx ∧ Inv (j + 1) p.2) : Run (sFor mi f m s0) fun p => p.1 = .nx ∧ Inv xs.length p.2 := by
  obtain ⟨s', h1, h2⟩ := loopF_inv (f := f) (m := m) Inv xs 0 s h fun j x s hj hi => by
    obtain ⟨⟨c, s2⟩, e, h1, h2⟩ := st j x s hj (by rw [Nat.zero_add] at hi; exact hi)
    have h1' : c = .nx := h1
    subst h1'
    exact ⟨s2, e, by rw [Nat.zero_add]; exact h2⟩
  refine ⟨(.nx, s'), ?_, rfl, by rw [Nat.zero_add] at h2; exact h2⟩
  show ((mi s0).bind fun p => loopF f m p.1 p.2) = _
  rw [hm]
  exact h1
/-- a loop over a range that may leave by return: each turn goes on with Inv, or ends with an answer in R -/
theorem loopF_ret {f : α → Env αs → Env αs} {m : MS αs ρ} (Inv : Nat → Env αs → Prop) (R : ρ → Env αs → Prop) : ∀ (xs : List α) (i : Nat) (s : Env αs), Inv i s → (∀ (j : Nat) (x : α) (s : Env αs), xs[j]? = .some x → Inv (i + j) s → Run (m (f x s)) fun p => (p.1 = .nx ∧ Inv (i + j + 1) p.2) ∨ ∃ r, p.1 = .rt r ∧ R r p.2) →
    Run (loopF f m xs s) fun p => (p.1 = .nx ∧ Inv (i + xs.length) p.2) ∨ ∃ r, p.1 = .rt r ∧ R r p.2
  | [], i, s, h, _ => ⟨(.nx, s), rfl, .inl ⟨rfl, h⟩⟩
  | x :: xs, i, s, h, st => by
    obtain ⟨⟨c, s1⟩, h1, h2⟩ := st 0 x s rfl h
    have e : loopF f m (x :: xs) s = (m (f x s)).bind fun p => match p.1 with
      | .nx => loopF f m xs p.2
      | .ct => loopF f m xs p.2
      | .bk => .some (.nx, p.2)
      | .rt r => .some (.rt r, p.2) := rfl
    rw [e, h1]
    rcases h2 with ⟨h2, h3⟩ | ⟨r, h2, h3⟩
    · have h2' : c = .nx := h2
      subst h2'
      have := loopF_ret Inv R xs (i + 1) s1 h3 fun j y t hy ht => by
        have := st (j + 1) y t (by simpa using hy) (by rw [show i + (j + 1) = i + 1 + j by omega]; exact ht)
        rw [show i + 1 + j + 1 = i + (j + 1) + 1 by omega]
        exact this
      rw [List.length_cons, show i + (xs.length + 1) = i + 1 + xs.length by omega]
      exact this
    · have h2' : c = .rt r := h2
      subst h2'
      exact ⟨_, rfl, .inr ⟨r, rfl, h3⟩⟩
theorem Run.forRr {n : Int} {mi : M αs Int} {f : Int → Env αs → Env αs} {m : MS αs ρ} {s s0 : Env αs} (hm : mi s0 = .some (n, s)) (hn : -(2 ^ 62) ≤ n ∧ n < 2 ^ 62) (Inv : Nat → Env αs → Prop) (R : ρ → Env αs → Prop) (h : Inv 0 s)
    (st : ∀ (j : Nat) (s : Env αs), (j : Int) < n → Inv j s → Run (m (f (j : Int) s)) fun p => (p.1 = .nx ∧ Inv (j + 1) p.2) ∨ ∃ r, p.1 = .rt r ∧ R r p.2) : Run (sFor (m1 rng mi) f m s0) fun p => (p.1 = .nx ∧ Inv n.toNat p.2) ∨ ∃ r, p.1 = .rt r ∧ R r p.2 := by
  have hh := loopF_ret (f := f) (m := m) Inv R ((List.range n.toNat).map fun (i : Nat) => (i : Int)) 0 s h fun j x s hj hi => by
    rw [List.getElem?_map] at hj
    by_cases hjn : j < n.toNat
    · rw [List.getElem?_range hjn] at hj
      cases hj
      rw [Nat.zero_add] at hi ⊢
      exact st j s (by omega) hi
    · rw [List.getElem?_eq_none (by simp; omega)] at hj
      cases hj
  have e : m1 rng mi s0 = .some ((List.range n.toNat).map fun (i : Nat) => (i : Int), s) := by
    show ((mi s0).bind fun p => (rng p.1).bind fun b => .some (b, p.2)) = _
    rw [hm]
    show ((rng n).bind fun b => .some (b, s)) = _
    rw [rng_ok hn]; rfl
  show Run ((m1 rng mi s0).bind fun p => loopF f m p.1 p.2) _
  rw [e]
  simpa using hh
/-- a comprehension over a range, all items taken -/
theorem Run.lcR {n : Int} {mi : M αs Int} {f : Int → Env αs → Env αs} {rs : Env αs → Env αs → Env αs} {mt : M αs Bool} {me : M αs β} {s s0 : Env αs} (hm : mi s0 = .some (n, s)) (hn : n ≤ 1000000 ∧ -(2 ^ 62) ≤ n) (Inv : Env αs → Prop) (P : β → Prop) (h : Inv s)
    (st : ∀ (x : Int) (s : Env αs), Inv s → Run (mt (f x s)) fun p => p.1 = true ∧ Run (me p.2) fun q => P q.1 ∧ Inv (rs s q.2)) : Run (mLc (m1 rng mi) f rs mt me s0) fun p => p.1.length = n.toNat ∧ (∀ y ∈ p.1, P y) ∧ Inv p.2 := by
  obtain ⟨ys, s', h1, h2, h3, h4⟩ := loopC_inv (f := f) (rs := rs) (mt := mt) (me := me) Inv P (fun x s hi => by
    obtain ⟨⟨b, s1⟩, e1, eb, ⟨y, s2⟩, e2, hp, hi2⟩ := st x s hi
    have eb' : b = true := eb
    subst eb'
    exact ⟨s1, y, s2, e1, e2, hp, hi2⟩) ((List.range n.toNat).map fun (i : Nat) => (i : Int)) s h
  refine ⟨(ys, s'), ?_, by simpa using h2, h3, h4⟩
  show ((m1 rng mi s0).bind fun p => if p.1.length ≤ 1000000 then loopC f rs mt me p.1 p.2 else none) = _
  have e : m1 rng mi s0 = .some ((List.range n.toNat).map fun (i : Nat) => (i : Int), s) := by
    show ((mi s0).bind fun p => (rng p.1).bind fun b => .some (b, p.2)) = _
    rw [hm]
    show ((rng n).bind fun b => .some (b, s)) = _
    rw [rng_ok (by omega)]; rfl
  rw [e]
  show (if ((List.range n.toNat).map fun (i : Nat) => (i : Int)).length ≤ 1000000 then _ else none) = _
  rw [if_pos (by simp; omega)]
  exact h1
end
end Sm
/-! S12: slices, sums, chains, pop, triples. -/
namespace Sm
open PySem PySem.Spec L2
open Enc (enc)

/-! ### the programs' own functions -/
noncomputable def slc {α : Type} : List α → Option Int → Option Int → Option (List α) := (Seal fun (xs : List α) (lo hi : Option Int) => some ((xs.drop (HT.sIx xs.length 0 lo)).take (HT.sIx xs.length xs.length hi - HT.sIx xs.length 0 lo))).1
theorem slc_eq {α : Type} (xs : List α) (lo hi : Option Int) : slc xs lo hi = some ((xs.drop (HT.sIx xs.length 0 lo)).take (HT.sIx xs.length xs.length hi - HT.sIx xs.length 0 lo)) := by unfold slc; rw [(Seal _).2]
def revl {α : Type} (xs : List α) : Option (List α) := some xs.reverse
noncomputable def catl {α : Type} : List α → List α → Option (List α) := (Seal fun (xs ys : List α) => if xs.length + ys.length ≤ 1000000 then some (xs ++ ys) else none).1
theorem catl_eq {α : Type} (xs ys : List α) : catl xs ys = if xs.length + ys.length ≤ 1000000 then some (xs ++ ys) else none := by unfold catl; rw [(Seal _).2]
def isum (xs : List Int) : Option Int := some xs.sum
noncomputable def slcA {α : Type} (xs : List α) (i : Int) : Option (List α) := slc xs (some i) none
noncomputable def slcB {α : Type} (xs : List α) (i : Int) : Option (List α) := slc xs none (some i)
noncomputable def slcAB {α : Type} (xs : List α) (i j : Int) : Option (List α) := slc xs (some i) (some j)
noncomputable def slcN {α : Type} (xs : List α) : Option (List α) := slc xs none none
def fa' {α β γ : Type} (x : T3 α β γ) : Option α := some x.a
def fb' {α β γ : Type} (x : T3 α β γ) : Option β := some x.b
def fc' {α β γ : Type} (x : T3 α β γ) : Option γ := some x.c

section
variable {X : Cx} {αs : List Type} {Γ Γ1 Γ2 Γ' Γt : RTs X.K αs} {α β γ ρ : Type} {e a b c tg iter : Expr} {es : List Expr} {pos apos cpos p1 p2 p3 pn : Pos} {n n1 n2 n3 : Str}
/-! ### what makes a new list -/
theorem newl [Enc α] [PureE α] {G H : Hp} {vs : List V} {xs : List α} (e : Ex G H) (h : All2 (fun v x => Dq X.K G v (enc x)) vs xs) {Q : VK} (q : ∀ w G' H' B, Al G H G' H' → (RT.own X.K α).rel G' H' w xs B → NewB G H G' H' B → Q w H') :
    ∀ l, H l = none → Q (.ref l) (upd H l (.lst vs)) := fun l hl => by
  refine q (.ref l) G _ (fun a => a = l) (Al.my e hl) ⟨l, vs, rfl, rfl, upd_same, h⟩ fun a ha => ?_
  subst ha
  refine ⟨hl, ?_, _, upd_same, rfl⟩
  cases h : G a with
  | none => rfl
  | some u => rw [e a u h] at hl; cases hl
theorem all2_cut {P : V → α → Prop} {vs : List V} {xs : List α} (lo hi : Option Int) (h : All2 P vs xs) {ys : List α} (e : slc xs lo hi = some ys) : All2 P (cutV vs lo hi) ys := by
  rw [slc_eq] at e
  cases e
  unfold cutV
  rw [h.len]
  exact (h.drop _).take _
theorem XE.slA [Enc α] [PureE α] {ma : M αs (List α)} {mb : M αs Int} (ha : XE X Γ a (RT.dat X.K (List α)) ma) (hb : XE X Γ b (RT.dat X.K Int) mb) : XE X Γ (.Subscript a (.Slice (some b) none none p2) pos) (RT.own X.K α) (m2 slcA ma mb) :=
  .bin (r := fun v u H Q => ∃ i, u = .int i ∧ rSlL X.K v (some i) none H Q) ⟨fun pins s σ H Q I h => (pe_slice sl_list pe_w (po_some pe_w) po_none).run pins s σ H Q I h⟩ ha hb rfl rfl fun G H v u x y z Q e hx hy hz q => by
    obtain ⟨p, vs, rfl, hp, k⟩ := dq_list hx
    cases dq_int hy
    exact ⟨y, rfl, p, vs, rfl, SqL.of (e _ _ hp), newl e (all2_cut _ _ k hz) q⟩
theorem XE.slB [Enc α] [PureE α] {ma : M αs (List α)} {mb : M αs Int} (ha : XE X Γ a (RT.dat X.K (List α)) ma) (hb : XE X Γ b (RT.dat X.K Int) mb) : XE X Γ (.Subscript a (.Slice none (some b) none p2) pos) (RT.own X.K α) (m2 slcB ma mb) :=
  .bin (r := fun v u H Q => ∃ i, u = .int i ∧ rSlL X.K v none (some i) H Q) ⟨fun pins s σ H Q I h => (pe_slice sl_list pe_w po_none (po_some pe_w)).run pins s σ H Q I h⟩ ha hb rfl rfl fun G H v u x y z Q e hx hy hz q => by
    obtain ⟨p, vs, rfl, hp, k⟩ := dq_list hx
    cases dq_int hy
    exact ⟨y, rfl, p, vs, rfl, SqL.of (e _ _ hp), newl e (all2_cut _ _ k hz) q⟩
theorem XE.slAB [Enc α] [PureE α] {ma : M αs (List α)} {mb mc : M αs Int} (ha : XE X Γ a (RT.dat X.K (List α)) ma) (hb : XE X Γ b (RT.dat X.K Int) mb) (hc : XE X Γ c (RT.dat X.K Int) mc) : XE X Γ (.Subscript a (.Slice (some b) (some c) none p2) pos) (RT.own X.K α) (m3 slcAB ma mb mc) := by
  intro C s σ G H o k z s' hm Q q
  obtain ⟨x, s1, y, s2, w, h1, h2, h3, h4⟩ := m3E hm
  refine wE_of (pe_slice sl_list pe_w (po_some pe_w) (po_some pe_w)) ?_
  refine ha C s σ G H o k x s1 h1 _ fun v G1 H1 o1 B k1 g1 kp r1 t1 => ?_
  refine hb C s1 σ G1 H1 o1 k1 y s2 h2 _ fun u G2 H2 o2 B' k2 g2 kp2 r2 t2 => ?_
  cases dq_int r2
  refine ⟨y, rfl, ?_⟩
  refine hc C s2 σ G2 H2 o2 k2 w s' h3 _ fun t G3 H3 o3 B'' k3 g3 kp3 r3 t3 => ?_
  cases dq_int r3
  obtain ⟨p, vs, rfl, hp, kk⟩ := dq_list (dq_mono (g2.trans g3) r1)
  exact ⟨w, rfl, p, vs, rfl, SqL.of (k3.gh _ _ hp), newl k3.gh (all2_cut _ _ kk h4) fun w G' H' B al r nb => q w G' H' o3 B (k3.al al) (((g1.trans g2).trans g3).trans al.g) ((kp.trans kp2).trans kp3) r (nb.tmp k3)⟩
theorem XE.slN [Enc α] [PureE α] {ma : M αs (List α)} (ha : XE X Γ a (RT.dat X.K (List α)) ma) : XE X Γ (.Subscript a (.Slice none none none p2) pos) (RT.own X.K α) (m1 slcN ma) :=
  .un (r := fun v H Q => rSlL X.K v none none H Q) ⟨fun pins s σ H Q I h => (pe_slice sl_list pe_w po_none po_none).run pins s σ H Q I h⟩ ha rfl fun G H v x z Q e hx hz q => by
    obtain ⟨p, vs, rfl, hp, k⟩ := dq_list hx
    exact ⟨p, vs, rfl, SqL.of (e _ _ hp), newl e (all2_cut _ _ k hz) q⟩
theorem XE.rev [Enc α] [PureE α] {ma : M αs (List α)} {k : Nat} (ha : XE X Γ a (RT.dat X.K (List α)) ma) : XE X Γ (.Subscript a (.Slice none none (some (.UnaryOp .USub (.Constant (.int 1) k p1) p2)) p3) pos) (RT.own X.K α) (m1 revl ma) :=
  .un (r := fun x H1 Q => ∃ a xs, x = .ref a ∧ SqL X.K H1 a xs ∧ ∀ p, H1 p = none → Q (.ref p) (upd H1 p (.lst xs.reverse))) (pe_revL pe_w) ha rfl fun G H v x z Q e hx hz q => by
    cases hz
    obtain ⟨p, vs, rfl, hp, k⟩ := dq_list hx
    exact ⟨p, vs, rfl, SqL.of (e _ _ hp), newl e k.rev q⟩
theorem XE.cat [Enc α] [PureE α] {ma mb : M αs (List α)} (ha : XE X Γ a (RT.dat X.K (List α)) ma) (hb : XE X Γ b (RT.dat X.K (List α)) mb) : XE X Γ (.BinOp a .Add b pos) (RT.own X.K α) (m2 catl ma mb) :=
  .bin (r := rCat) (pe_op op_cat pe_w pe_w) ha hb rfl rfl fun G H v u x y z Q e hx hy hz q => by
    obtain ⟨p, vs, rfl, hp, k⟩ := dq_list hx
    obtain ⟨p', vs', rfl, hp', k'⟩ := dq_list hy
    rw [catl_eq] at hz
    obtain ⟨hl, rfl⟩ := ite_some hz
    exact ⟨p, p', vs, vs', rfl, rfl, e _ _ hp, e _ _ hp', by rw [k.len, k'.len]; exact Nat.le_trans hl (by decide), newl e (k.app k') q⟩
theorem all2_ints {G : Hp} : ∀ {vs : List V} {xs : List Int}, All2 (fun v x => Dq X.K G v (enc x)) vs xs → vs = xs.map V.int
  | [], [], _ => rfl
  | [], _ :: _, h => (show False from h).elim
  | _ :: _, [], h => (show False from h).elim
  | v :: vs, i :: is, h => by rw [List.map_cons, dq_int h.1, all2_ints h.2]
theorem XE.sum {ma : M αs (List Int)} {p : Pos} (hc : X.calm = true) (hg : Gl X "sum") (hm : X.mg "sum" = none) (ha : XE X Γ a (RT.dat X.K (List Int)) ma)
    (he : starEach [a] X.env = [(false, eval a X.env)] := by rfl) : XE X Γ (.Call (.Name "sum" p) [a] [] pos) (RT.dat X.K Int) (m1 isum ma) :=
  .un (r := fun v H Q => ∃ (p : Addr) (ns : List Int), [v] = [V.ref p] ∧ SqL X.K H p (ns.map V.int) ∧ Q (.int ns.sum) H) (pe_callB (cr_sum hc) hg hm (by decide +kernel) (pa_cons pe_w pa_nil he) (he := he)) ha rfl fun G H v x z Q e hx hz q => by
    cases hz
    obtain ⟨p, vs, rfl, hp, k⟩ := dq_list hx
    have hv : vs = x.map V.int := all2_ints k
    subst hv
    exact ⟨p, x, rfl, SqL.of (e _ _ hp), here (z := x.sum) e (.int _) q⟩

/-! ### a < b < c -/
/-- one comparison between values -/
def CI (X : Cx) (op : CmpOp) (f : Int → Int → Option Bool) : Prop := ∃ g : Int → Int → Bool, OpR X (compareOp op) (rI0 fun i j => .bl (g i j)) ∧ ∀ i j z, f i j = some z → z = g i j
theorem ci_lt : CI X .Lt ilt := ⟨_, op_lt, fun _ _ _ h => by rw [ilt_eq] at h; exact (Option.some.inj h).symm⟩
theorem ci_le : CI X .LtE ile := ⟨_, op_le, fun _ _ _ h => by rw [ile_eq] at h; exact (Option.some.inj h).symm⟩
theorem chain_run {f g : Int → Int → Option Bool} {op op' : CmpOp} {ma mb mc : M αs Int} (hf : CI X op f) (hg : CI X op' g) (ha : XE X Γ a (RT.dat X.K Int) ma) (hb : XE X Γ b (RT.dat X.K Int) mb) (hc : XE X Γ c (RT.dat X.K Int) mc) :
    ∃ r r', OpR X (compareOp op) r ∧ OpR X (compareOp op') r' ∧ ∀ (C : C0) (s : Env αs) (σ : L2.St) (G H : Hp) (o : Addr → Option Nat), Ok C Γ s σ G H o → ∀ (z : Bool) (s' : Env αs), chn f g ma mb mc s = some (z, s') → ∀ Q : VK,
    (∀ (G' H' : Hp) (o' : Addr → Option Nat), Ok C Γ s' σ G' H' o' → Ex G G' → Kp Γ s s' → Q (.bl z) H') → tChain r r' (wE X a) (wE X b) (wE X c) σ H Q := by
  obtain ⟨f', of, hf⟩ := hf
  obtain ⟨g', og, hg⟩ := hg
  refine ⟨_, _, of, og, fun C s σ G H o k z s' hm Q q => ?_⟩
  obtain ⟨⟨x, s1⟩, h1, hm⟩ := bindE hm
  obtain ⟨⟨y, s2⟩, h2, hm⟩ := bindE hm
  obtain ⟨d, h3, hm⟩ := bindE hm
  refine ha C s σ G H o k x s1 h1 _ fun v G1 H1 o1 B k1 g1 kp r1 t1 => ?_
  refine hb C s1 σ G1 H1 o1 k1 y s2 h2 _ fun u G2 H2 o2 B' k2 g2 kp2 r2 t2 => ?_
  cases dq_int r1
  cases dq_int r2
  refine ⟨x, y, rfl, rfl, d, by rw [hf _ _ _ h3], ?_⟩
  cases d with
  | false =>
    rw [if_neg (by simp)]
    rw [if_neg (by simp)] at hm
    cases hm
    exact q G2 H2 o2 k2 (g1.trans g2) (kp.trans kp2)
  | true =>
    rw [if_pos rfl]
    rw [if_pos rfl] at hm
    obtain ⟨⟨w, s3⟩, h4, hm⟩ := bindE hm
    obtain ⟨d2, h5, hm⟩ := bindE hm
    cases hm
    refine hc C s2 σ G2 H2 o2 k2 w _ h4 _ fun t G3 H3 o3 B'' k3 g3 kp3 r3 t3 => ?_
    cases dq_int r3
    refine ⟨y, w, rfl, rfl, ?_⟩
    have e5 := hg _ _ _ h5
    subst e5
    exact q G3 H3 o3 k3 ((g1.trans g2).trans g3) ((kp.trans kp2).trans kp3)
theorem XE.chn {f g : Int → Int → Option Bool} {op op' : CmpOp} {ma mb mc : M αs Int} (hf : CI X op f) (hg : CI X op' g) (ha : XE X Γ a (RT.dat X.K Int) ma) (hb : XE X Γ b (RT.dat X.K Int) mb) (hc : XE X Γ c (RT.dat X.K Int) mc)
    (hm : lastMarks [op, op'] [b, c] = false := by with_unfolding_all rfl) : XE X Γ (.Compare a [op, op'] [b, c] pos) (RT.dat X.K Bool) (Sm.chn f g ma mb mc) := by
  obtain ⟨r, r', h1, h2, h3⟩ := chain_run (Γ := Γ) hf hg ha hb hc
  intro C s σ G H o k z s' hm' Q q
  exact wE_of (pe_chain h1 h2 pe_w pe_w pe_w hm) (h3 C s σ G H o k z s' hm' Q fun G1 H1 o1 k1 g1 kp => q _ G1 H1 o1 (fun _ => False) k1 g1 kp (show Dq X.K G1 (.bl z) (.bool z) from .bl _) tmp0)
theorem XT.chn {f g : Int → Int → Option Bool} {op op' : CmpOp} {ma mb mc : M αs Int} (hf : CI X op f) (hg : CI X op' g) (ha : XE X Γ a (RT.dat X.K Int) ma) (hb : XE X Γ b (RT.dat X.K Int) mb) (hc : XE X Γ c (RT.dat X.K Int) mc)
    (hm : lastMarks [op, op'] [b, c] = false := by with_unfolding_all rfl) : XT X Γ (.Compare a [op, op'] [b, c] pos) (Sm.chn f g ma mb mc) := by
  obtain ⟨r, r', h1, h2, h3⟩ := chain_run (Γ := Γ) hf hg ha hb hc
  intro C s σ G H o k z s' hm' Q q
  exact wT_of (pt_chain h1 h2 pe_w pe_w pe_w hm) (h3 C s σ G H o k z s' hm' _ fun G1 H1 o1 k1 g1 kp => ⟨z, rfl, q G1 H1 o1 k1 g1 kp⟩)

/-! ### triples -/
theorem XG.trip [Enc α] [Enc β] [Enc γ] {x : Var αs α} {y : Var αs β} {z : Var αs γ} {q1 q2 q3 : Pos} {kk : Nat} (hc : X.calm = true) (hN : X.N.Nodup) (hi : X.N[x.idx]? = some n1) (hx : Loc X.env.scope n1) (hj : X.N[y.idx]? = some n2) (hy : Loc X.env.scope n2) (hk : X.N[z.idx]? = some n3) (hz : Loc X.env.scope n3)
    (hxy : x.idx ≠ y.idx) (hxz : x.idx ≠ z.idx) (hyz : y.idx ≠ z.idx) (hf : X.fn n1 = true ∨ X.env.scope.names.lookup n1 = some .local := by first | exact .inl rfl | exact .inr rfl) (hf' : X.fn n2 = true ∨ X.env.scope.names.lookup n2 = some .local := by first | exact .inl rfl | exact .inr rfl)
    (hf'' : X.fn n3 = true ∨ X.env.scope.names.lookup n3 = some .local := by first | exact .inl rfl | exact .inr rfl) :
    XG X Γ (z.setR (RT.dat X.K γ) (y.setR (RT.dat X.K β) (x.setR (RT.dat X.K α) Γ))) (.Tuple [.Name n1 q1, .Name n2 q2, .Name n3 q3] kk pos) (RT.dat X.K (T3 α β γ)) [x.idx, y.idx, z.idx] (fun w s => z.set (some w.c) (y.set (some w.b) (x.set (some w.a) s))) := by
  intro C s σ G H o k v w r Q q
  obtain ⟨p, v1, v2, v3, rfl, hp, h1, h2, h3⟩ := dq_t3 r
  obtain ⟨o', k'⟩ := k.set x (RT.dat X.K α) (v := v1) (y := w.a) (B := fun _ => False) h1 fun _ h => h.elim
  obtain ⟨o2, k2⟩ := k'.set y (RT.dat X.K β) (v := v2) (y := w.b) (B := fun _ => False) h2 fun _ h => h.elim
  obtain ⟨o3, k3⟩ := k2.set z (RT.dat X.K γ) (v := v3) (y := w.c) (B := fun _ => False) h3 fun _ h => h.elim
  refine wG_of (pg_tup hc (pgs_cons (pg_name hN hi hx hf) (pgs_cons (pg_name hN hj hy hf') (pgs_cons (pg_name hN hk hz hf'') pgs_nil)))) ?_
  refine ⟨p, [v1, v2, v3], rfl, k.gh.t hp, rfl, v1, [v2, v3], rfl, v2, [v3], rfl, v3, [], rfl, rfl, q _ o3 k3 ?_⟩
  show wipe (((σ.set x.idx (some v1)).set y.idx (some v2)).set z.idx (some v3)) [x.idx, y.idx, z.idx] = wipe σ [x.idx, y.idx, z.idx]
  refine List.ext_getElem? fun i => ?_
  have len : ∀ (τ : L2.St), τ.length = σ.length → (wipe τ [x.idx, y.idx, z.idx])[i]? = if i < σ.length then (if i = x.idx ∨ i = y.idx ∨ i = z.idx then some none else τ[i]?) else none := fun τ hl => by
    show (((τ.set z.idx none).set y.idx none).set x.idx none)[i]? = _
    rw [List.getElem?_set, List.getElem?_set, List.getElem?_set]
    simp only [List.length_set]
    by_cases hi : i < σ.length
    · simp only [hi, if_true]
      by_cases h1 : i = x.idx
      · subst h1
        simp only [if_true, true_or]; rw [if_pos (by omega)]
      · rw [if_neg (Ne.symm h1)]
        by_cases h2 : i = y.idx
        · subst h2; simp only [if_true, true_or, or_true]; rw [if_pos (by omega)]
        · rw [if_neg (Ne.symm h2)]
          by_cases h3 : i = z.idx
          · subst h3; simp only [if_true, or_true]; rw [if_pos (by omega)]
          · rw [if_neg (Ne.symm h3), if_neg (by omega)]
    · simp only [hi, if_false]
      rw [if_neg (by have := x.lt; have := k.len; omega), if_neg (by have := y.lt; have := k.len; omega), if_neg (by have := z.lt; have := k.len; omega)]
      exact List.getElem?_eq_none (by omega)
  rw [len _ (by simp), len σ rfl]
  by_cases hi : i < σ.length
  · simp only [hi, if_true]
    by_cases h : i = x.idx ∨ i = y.idx ∨ i = z.idx
    · rw [if_pos h, if_pos h]
    · rw [if_neg h, if_neg h]
      rw [List.getElem?_set_ne (fun q => h (.inr (.inr q.symm))), List.getElem?_set_ne (fun q => h (.inr (.inl q.symm))), List.getElem?_set_ne (fun q => h (.inl q.symm))]
  · simp only [hi, if_false]
theorem XE.ta [Enc α] [Enc β] [Enc γ] {ma : M αs (T3 α β γ)} {j} (ha : XE X Γ a (RT.dat X.K (T3 α β γ)) ma) : XE X Γ (.Subscript a (.Constant (.int 0) j p2) pos) (RT.dat X.K α) (m1 fa' ma) :=
  .un (r := fun v H Q => rIxT X.K v (.int 0) H Q) (pe_ix ix_tup pe_w pe_int fun _ _ => rfl) ha rfl fun G H v x z Q e hx hz q => by
    cases hz
    obtain ⟨p, v1, v2, v3, rfl, hp, h1, h2, h3⟩ := dq_t3 hx
    exact ⟨p, [v1, v2, v3], 0, v1, rfl, rfl, e.t hp, rfl, here (z := x.a) e h1 q⟩
theorem XE.tb [Enc α] [Enc β] [Enc γ] {ma : M αs (T3 α β γ)} {j} (ha : XE X Γ a (RT.dat X.K (T3 α β γ)) ma) : XE X Γ (.Subscript a (.Constant (.int 1) j p2) pos) (RT.dat X.K β) (m1 fb' ma) :=
  .un (r := fun v H Q => rIxT X.K v (.int 1) H Q) (pe_ix ix_tup pe_w pe_int fun _ _ => rfl) ha rfl fun G H v x z Q e hx hz q => by
    cases hz
    obtain ⟨p, v1, v2, v3, rfl, hp, h1, h2, h3⟩ := dq_t3 hx
    exact ⟨p, [v1, v2, v3], 1, v2, rfl, rfl, e.t hp, rfl, here (z := x.b) e h2 q⟩
theorem XE.tc [Enc α] [Enc β] [Enc γ] {ma : M αs (T3 α β γ)} {j} (ha : XE X Γ a (RT.dat X.K (T3 α β γ)) ma) : XE X Γ (.Subscript a (.Constant (.int 2) j p2) pos) (RT.dat X.K γ) (m1 fc' ma) :=
  .un (r := fun v H Q => rIxT X.K v (.int 2) H Q) (pe_ix ix_tup pe_w pe_int fun _ _ => rfl) ha rfl fun G H v x z Q e hx hz q => by
    cases hz
    obtain ⟨p, v1, v2, v3, rfl, hp, h1, h2, h3⟩ := dq_t3 hx
    exact ⟨p, [v1, v2, v3], 2, v3, rfl, rfl, e.t hp, rfl, here (z := x.c) e h3 q⟩

/-! ### x.pop() -/
def mPop (x : Var αs (List α)) : M αs α := fun s => (x.get s).bind fun xs => (xs[xs.length - 1]?).bind fun y => some (y, x.set (some xs.dropLast) s)
theorem all2_dropLast {P : V → α → Prop} {vs : List V} {xs : List α} (h : All2 P vs xs) : All2 P vs.dropLast xs.dropLast := by
  rw [List.dropLast_eq_take, List.dropLast_eq_take, h.len]
  exact h.take _
theorem XE.pop [Enc α] [PureE α] {x : Var αs (List α)} (hpe : PE X (.Name n pn) (tVar x.idx)) (hx : Sub (x.rt Γ) (RT.own X.K α)) (hf : (x.rt Γ).fix = false)
    (hp : PE X (.Call (.Attribute (.Name n pn) "pop" apos) [] [] cpos) (tBM0 X.K "list" rPop (tVar x.idx)) := by exact pe_bm0 PySem.F.plainAttrs_list PySem.F.slot_list_pop PySem.F.type_list_pop mt_pop (pv _)) :
    XE X Γ (.Call (.Attribute (.Name n pn) "pop" apos) [] [] cpos) (RT.dat X.K α) (mPop x) := by
  intro C s σ G H o k z s' hm Q q
  obtain ⟨xs, e0, hm⟩ := bindE hm
  obtain ⟨y, e1, hm⟩ := bindE hm
  cases hm
  obtain ⟨p, vs, h0, h2, h3, h4, h9⟩ := k.ownAt hx e0
  obtain ⟨v, h5, h6⟩ := h4.get e1
  refine wE_of hp ⟨_, h0, .inl ⟨rfl, _, SqL.of h3⟩, p, vs, v, rfl, rfl, h3, by rw [h4.len]; exact h5, ?_⟩
  refine q v G _ o (fun _ => False) (k.mut x h0 h2 rfl (hx.of h9 ⟨p, _, rfl, h2, upd_same, all2_dropLast h4⟩)) (Ex.refl _) (Var.split x (fun h => ?_) fun β z hz _ => Var.get_ne x z _ _ hz) h6 tmp0
  rw [hf] at h; cases h
end
end Sm
/-! S13: objects: defs without a return, methods, makers, own in and len. -/
namespace Sm
open PySem PySem.Spec L2
open Enc (enc)

/-! ### defs that hand out None -/
def bodyN {ps ls : List Type} (m : MS (ps ++ ls) Unit) : Env ps → Option (Unit × Env ps) := fun s => (m (ext ls ps s)).bind fun p => match p.1 with
  | .rt r => some (r, prj ls ps p.2)
  | .nx => some ((), prj ls ps p.2)
  | _ => none
section
variable {Pr : Program} {w : World} {K : Fr} {mg : Str → Option Value} {base : Heap}
theorem fs_okN {x qual : Str} {st : Stmt} {f : Addr} {fd : FuncData} {N qs : List Str} {k : Nat} (F : Fun K x qual st f fd) (S : FnScope N qs (defScope st)) {ps ls : List Type} {Γp Γo : RTs K ps} {m : MS (ps ++ ls) Unit}
    (hq : qs.length = ps.length) (hN : N.length = (ps ++ ls).length)
    (hbody : ∀ (cdv : Value) (A : Around) (outer : List PySem.Env) (s : Shared) (H : Hp) (vs : List V) (E : XK), vs.length = ps.length → Room k (A.deeper (PyProof.Rows.envOfC qual (defScope st) s.heap.objs.size f cdv)) →
      ∃ (Γ0 Γr : RTs K (ps ++ ls)), PIn ls ps Γp Γ0 vs ∧ POut ls ps Γo Γr vs ∧ XSs (cxOf CX0 Pr w K mg base N qual (defScope st) f cdv A outer s H E).nox ⟨RT.dat K Unit, Γr, Γ0⟩ Γ0 Γr (defBody st) m) :
    FnOk Pr w K mg base CX0 (k + 1) f fd qs (spF ⟨ps, Γp, Γo, Unit, RT.dat K Unit, bodyN m⟩) := by
  refine F.ok S (fun vs H Q E h => by rw [hq]; exact spF_len h) fun cdv A outer s H vs Q E hr h => ⟨_, pss_w, ?_⟩
  have hl := spF_len h
  obtain ⟨G, o, e, r, e', k0, hf, q⟩ := h
  obtain ⟨Γ0, Γr, hin, hout, hb⟩ := hbody cdv A outer s H vs E hl hr
  obtain ⟨⟨c, s2⟩, e1, e2⟩ := bindE (show (m (ext ls ps e)).bind _ = some (r, e') from hf)
  have hs : ∀ i, i < vs.length → (L2.start N vs)[i]? = (vs.map some)[i]? := fun i hi => by
    unfold L2.start
    rw [List.getElem?_append_left (by simpa using hi)]
  have kS : Ok (reC G H o) Γ0 (ext ls ps e) (L2.start N vs) G H o := by
    refine ⟨k0.g, k0.gh, k0.new, k0.fr, k0.dom, k0.imm, k0.own, ?_, fun α y a hy => ?_⟩
    · unfold L2.start
      rw [List.length_append, List.length_map, List.length_replicate]
      have hl' : vs.length = ps.length := hl
      rw [List.length_append] at hN ⊢
      omega
    · rcases Var.inj_or ls ps y e with ⟨x, rfl⟩ | h
      · rw [Var.inj_get, prj_ext] at hy
        obtain ⟨v, h1, h2⟩ := k0.sl α x a hy
        have hx : x.idx < vs.length := by rw [hl]; exact x.lt
        rw [Var.inj_idx]
        refine ⟨v, by rw [hs _ hx]; exact h1, hin.get x v G H a _ ?_ h2⟩
        rw [List.getElem?_map] at h1
        cases z : vs[x.idx]? with
        | none => rw [z] at h1; cases h1
        | some u => rw [z] at h1; cases h1; rfl
      · rw [h] at hy; cases hy
  have back : ∀ {σ' : L2.St} {G' H' : Hp} {o' : Addr → Option Nat}, Ok (reC G H o) Γr s2 σ' G' H' o' → Ok (reC G H o) Γo (prj ls ps s2) (vs.map some) G' H' o' := fun k' => by
    refine ⟨k'.g, k'.gh, k'.new, k'.fr, k'.dom, k'.imm, k'.own, k0.len, fun α x a hx => ?_⟩
    have hx' : (x.inj ls).get s2 = some a := by rw [Var.inj_get]; exact hx
    obtain ⟨u, h1, h2⟩ := k'.sl α (x.inj ls) a hx'
    have hxl : x.idx < vs.length := by rw [hl]; exact x.lt
    refine ⟨vs[x.idx], by rw [List.getElem?_map, List.getElem?_eq_getElem hxl]; rfl, ?_⟩
    rw [Var.inj_idx] at h2
    exact hout.get x _ u _ _ a _ (List.getElem?_eq_getElem hxl) h2
  refine hb (reC G H o) (ext ls ps e) (L2.start N vs) G H o kS c s2 e1 _ ?_
  cases c with
  | nx =>
    cases e2
    intro σ' G' H' o' k'
    exact q .non G' H' o' (fun _ => False) (back k') (show Dq K G' .non .none from .non) tmp0
  | bk => cases e2
  | ct => cases e2
  | rt r' =>
    cases e2
    intro σ' v G' H' o' B k' r1 t1
    exact q v G' H' o' B (back k') r1 t1
end

section
variable {X : Cx} {αs : List Type} {Γ Γ1 Γ2 Γ' Γt : RTs X.K αs} {α β γ ρ τ : Type} {e a b c tg iter ob : Expr} {es : List Expr} {pos apos cpos p p1 p2 p3 pn : Pos} {n n1 n2 n3 mn : Str}
/-! ### making an object; the arguments by value -/
def mMake {ps : List Type} (x0 : τ) (f : Env (τ :: ps) → Option (ρ × Env (τ :: ps))) (ma : M αs (Env ps)) : M αs τ := fun s => (ma s).bind fun p => (f ((some x0, p.1) : Option τ × Env ps)).bind fun q => (show Option τ from q.2.1).bind fun t => some (t, p.2)
theorem XE.make {CX : CXT} [NoX CX] {ps : List Type} {Ro : RT X.K τ} {Γp Γo : RTs X.K ps} {f : Env (τ :: ps) → Option (Unit × Env (τ :: ps))} {κ : Ks αs ps} {ma : M αs (Env ps)} {x0 : τ} {C fn : Addr} {fd : FuncData} {qs : List Str} {k : Nat} {x : Str}
    (h0 : ∀ (G H : Hp) (p dx : Addr) (A : Addr → Prop), H p = some (.ins C dx []) → A p → Ro.rel G H (.ref p) x0 A) (M : Mk X.K C fn)
    (F : FnOk X.prog X.w X.K X.mg X.base CX k fn fd qs (spF ⟨τ :: ps, ((Ro, Γp) : RT X.K τ × RTs X.K ps), ((Ro, Γo) : RT X.K τ × RTs X.K ps), Unit, RT.dat X.K Unit, f⟩)) (hr : Room (k + 1) X.A) (hg : Gl X x) (hm : X.mg x = some (.ref C)) (hb : Binds X.K fd qs [])
    (ha : XA X Γ (e :: es) κ Γp ma) (hv : κ.ixs = [] := by rfl) (hdb : (x == ("__debug__" : Str)) = false := by decide) (he : starEach (e :: es) X.env = (false, eval e X.env) :: starEach es X.env := by rfl) (hpl : (backTo pos (starEach es X.env)).any (·.1) = false := by rfl) :
    XE X Γ (.Call (.Name x p) (e :: es) [] pos) Ro (mMake x0 f ma) := by
  intro C0 s σ G H o k0 z s' hm' Q q
  obtain ⟨⟨as, s1⟩, e1, e2⟩ := bindE hm'
  obtain ⟨⟨r, as'⟩, e3, e4⟩ := bindE e2
  obtain ⟨t, e5, e6⟩ := bindE e4
  cases e6
  refine wE_of (pe_make M F hr hg hm hb .nil passE pa_w hdb he hpl) ?_
  refine ha C0 s σ G H o k0 as _ e1 _ fun vs G1 H1 o1 k1 g1 kp r1 => ?_
  intro x1 dx hx hdx hne
  rw [List.append_nil]
  have hx2 : (upd (upd H1 dx (.own x1)) x1 (.ins C dx [])) x1 = some (.ins C dx []) := upd_same
  have hx3 : ∀ a u, H1 a = some u → (upd (upd H1 dx (.own x1)) x1 (.ins C dx [])) a = some u := fun a u h => by
    rw [upd_ne (ne_of_none h hx), upd_ne (ne_of_none h hdx)]; exact h
  have gx : G1 x1 = none := by
    cases z : G1 x1 with
    | none => rfl
    | some u => rw [k1.gh _ _ z] at hx; cases hx
  refine ⟨G1, fun a => if a = x1 then some 0 else none, ((some x0, as) : Option τ × Env ps), r, as', ⟨Ex.refl _, fun a u h => hx3 a u (k1.gh a u h), fun _ _ _ h => h, fun _ _ _ h => h, fun _ h => h, fun _ _ h _ => h, fun a ha => ?_, ?_, fun α y w hw => ?_⟩, e3, fun v G' H' o' B k' rr tt => ?_⟩
  · by_cases h : a = x1
    · subst h
      exact ⟨gx, ⟨_, hx2, rfl⟩, .inl ha⟩
    · simp [h] at ha
  · show (some (V.ref x1) :: vs.map some).length = _
    have := r1.len
    simp [this]
  · cases y with
    | vz =>
      have hw' : some x0 = some w := hw
      cases hw'
      exact ⟨.ref x1, rfl, h0 _ _ x1 dx _ hx2 (by show (if x1 = x1 then some 0 else none) = some 0; rw [if_pos rfl])⟩
    | vs y =>
      obtain ⟨u, h1, h2⟩ := r1.var _ y
      rcases h2 with ⟨_, h3, h4⟩ | ⟨z, _, h3, _⟩
      · refine ⟨u, ?_, (cpy_of h3 _ _ _ _ _).mpr (h4 w hw)⟩
        show (some (V.ref x1) :: vs.map some)[y.idx + 1]? = _
        rw [List.getElem?_cons_succ, List.getElem?_map, h1]; rfl
      · have := κ.sl_mem h3
        rw [hv] at this
        cases this
  · have al : Al G1 H1 G' H' := ⟨k'.g, k'.gh, fun a u h => k'.fr a u (fun (z : (if a = x1 then some 0 else none) ≠ none) => by
        rw [if_neg (ne_of_none h hx)] at z; exact z rfl) (hx3 a u h), fun a h g => k'.new a (fun (z : (if a = x1 then some 0 else none) ≠ none) => by
        by_cases w : a = x1
        · subst w; exact h hx
        · rw [if_neg w] at z; exact z rfl) (by
        cases u : H1 a with
        | none => exact absurd u h
        | some w =>
          have := hx3 a w u
          show (upd (upd H1 dx (.own x1)) x1 (.ins C dx [])) a ≠ none
          rw [this]; simp) g⟩
    obtain ⟨u, h1, h2⟩ := k'.sl τ .vz z e5
    cases h1
    refine ⟨(by cases rr; rfl), q (.ref x1) G' H' o1 _ (k1.al al) (g1.trans al.g) kp h2 (NewB.tmp (G := G1) (H := H1) k1 fun a ha => ?_)⟩
    have ha' : o' a = some 0 := ha
    obtain ⟨h3, h4, h5⟩ := k'.own a (by rw [ha']; simp)
    refine ⟨?_, h3, h4⟩
    rcases h5 with h5 | h5
    · have h5' : (if a = x1 then some 0 else none) ≠ none := h5
      by_cases w : a = x1
      · subst w; exact hx
      · rw [if_neg w] at h5'; exact absurd rfl h5'
    · cases w : H1 a with
      | none => rfl
      | some y =>
        have h6 : (upd (upd H1 dx (.own x1)) x1 (.ins C dx [])) a = none := h5
        rw [hx3 a y w] at h6; cases h6

/-! ### methods -/
/-- an object of the class at C without an attribute named m -/
def InsOf (C : Addr) (mn : Str) {K : Fr} (Ro : RT K τ) : Prop := ∀ (G : Hp) (v : V) (t : τ), Ro.shr G v t → ∃ a dx fs, v = .ref a ∧ G a = some (.ins C dx fs) ∧ fs.lookup mn = none
theorem XE.meth {CX : CXT} [NoX CX] {ps : List Type} {Ro Ro' : RT X.K τ} {Γp Γo : RTs X.K ps} {R : RT X.K ρ} {f : Env (τ :: ps) → Option (ρ × Env (τ :: ps))} (κ : Ks αs ps) {mo : M αs τ} {ma : M αs (Env ps)} {C fn : Addr} {fd : FuncData} {qs : List Str} {k : Nat} {pl : Sem Bool}
    (c : Cls X.K C) (hm : Meth X.K C mn fn) (F : FnOk X.prog X.w X.K X.mg X.base CX k fn fd qs (spF ⟨τ :: ps, ((Ro, Γp) : RT X.K τ × RTs X.K ps), ((Ro', Γo) : RT X.K τ × RTs X.K ps), ρ, R, f⟩)) (hr : Room k X.A) (hb : Binds X.K fd qs [])
    (hf : Ro.fix = true) (hi : InsOf C mn Ro) (ho : XE X Γ ob Ro mo) (ha : XA X Γ (e :: es) κ Γp ma) (nd : κ.ixs.Nodup := by decide) (om : OM κ Γp Γo)
    (hst : starEach (e :: es) X.env = (false, eval e X.env) :: starEach es X.env := by rfl) (hpl : (backTo pos (starEach es X.env)).any (·.1) = false := by rfl)
    (ht : eval (.Call (.Attribute ob mn apos) (e :: es) [] pos) X.env = (do
      let ov ← eval ob X.env
      standAt apos.atName
      let (f, first) ← holding [ov] (getMethod ov mn pl)
      callWith pos f first (backTo pos (starEach (e :: es) X.env)) (backToKw pos (keywordEach [] X.env))) := by rfl) :
    XE X Γ (.Call (.Attribute ob mn apos) (e :: es) [] pos) R (mCall (.v κ) f (aV mo ma)) := by
  intro C0 s σ G H o k0 z s' hm' Q q
  obtain ⟨⟨as, s2⟩, e1, e2⟩ := bindE hm'
  obtain ⟨⟨t, s1⟩, e3, e4⟩ := bindE e1
  obtain ⟨⟨as2, s3⟩, e5, e6⟩ := bindE e4
  cases e6
  obtain ⟨⟨r, as'⟩, e7, e8⟩ := bindE e2
  cases e8
  refine wE_of (pe_meth pe_w c hm F hr hb .nil passE pa_w hst hpl ht) ?_
  refine ho C0 s σ G H o k0 t s1 e3 _ fun v G1 H1 o1 B k1 g1 kp r1 t1 => ?_
  have hs := (cpy_of hf _ _ _ _ _).mp r1
  obtain ⟨a, dx, fs, rfl, ha', hl⟩ := hi _ _ _ hs
  refine ⟨a, dx, fs, rfl, k1.gh _ _ ha', hl, ?_⟩
  refine ha C0 s1 σ G1 H1 o1 k1 as2 _ e5 _ fun vs G2 H2 o2 k2 g2 kp2 r2 => ?_
  rw [List.append_nil]
  have r3 : AOk Γ s3 σ G2 (.v κ) ((Ro, Γp) : RT X.K τ × RTs X.K ps) ((some t, as2) : Option τ × Env ps) (V.ref a :: vs) := ⟨.ref a, vs, rfl, hf, fun y hy => by
    cases hy
    exact Ro.smono hs g2, r2⟩
  obtain ⟨oc, k3, back⟩ := k2.call (.v κ) (by simpa only [Ks.ixs] using nd) (Γp := ((Ro, Γp) : RT X.K τ × RTs X.K ps)) (Γo := ((Ro', Γo) : RT X.K τ × RTs X.K ps)) (by simp only [OM]; exact om) r3
  refine ⟨G2, oc, _, _, as', k3, e7, fun v G' H' o' B k' rr tt => ?_⟩
  obtain ⟨o4, k4, kp4, tB⟩ := back as' G' H' o' k'
  exact q v G' H' o4 B k4 ((g1.trans g2).trans k'.g) ((kp.trans kp2).trans kp4) rr (tB B tt)
/-- o.m() -/
theorem XE.meth0 {CX : CXT} [NoX CX] {Ro Ro' : RT X.K τ} {R : RT X.K ρ} {f : Env [τ] → Option (ρ × Env [τ])} {mo : M αs τ} {C fn : Addr} {fd : FuncData} {qs : List Str} {k : Nat} {pl : Sem Bool}
    (c : Cls X.K C) (hm : Meth X.K C mn fn) (F : FnOk X.prog X.w X.K X.mg X.base CX k fn fd qs (spF ⟨[τ], ((Ro, ()) : RT X.K τ × Unit), ((Ro', ()) : RT X.K τ × Unit), ρ, R, f⟩)) (hr : Room k X.A) (hb : Binds X.K fd qs [])
    (hf : Ro.fix = true) (hi : InsOf C mn Ro) (ho : XE X Γ ob Ro mo)
    (ht : eval (.Call (.Attribute ob mn apos) [] [] pos) X.env = (do
      let ov ← eval ob X.env
      standAt apos.atName
      let (f, first) ← holding [ov] (getMethod ov mn pl)
      callWith pos f first (backTo pos (starEach [] X.env)) (backToKw pos (keywordEach [] X.env))) := by rfl) :
    XE X Γ (.Call (.Attribute ob mn apos) [] [] pos) R (mCall (.v .nil) f (aV mo aNil)) := by
  intro C0 s σ G H o k0 z s' hm' Q q
  obtain ⟨⟨as, s2⟩, e1, e2⟩ := bindE hm'
  obtain ⟨⟨t, s1⟩, e3, e4⟩ := bindE e1
  cases e4
  obtain ⟨⟨r, as'⟩, e7, e8⟩ := bindE e2
  cases e8
  refine wE_of (pe_meth0 pe_w c hm F hr hb .nil passE ht) ?_
  refine ho C0 s σ G H o k0 t _ e3 _ fun v G1 H1 o1 B k1 g1 kp r1 t1 => ?_
  have hs := (cpy_of hf _ _ _ _ _).mp r1
  obtain ⟨a, dx, fs, rfl, ha', hl⟩ := hi _ _ _ hs
  refine ⟨a, dx, fs, rfl, k1.gh _ _ ha', hl, ?_⟩
  have r3 : AOk Γ s1 σ G1 (.v .nil) ((Ro, ()) : RT X.K τ × Unit) ((some t, ()) : Option τ × Unit) [V.ref a] := ⟨.ref a, [], rfl, hf, fun y hy => by
    cases hy
    exact hs, rfl⟩
  obtain ⟨oc, k3, back⟩ := k1.call (.v .nil) (by simp [Ks.ixs]) (Γo := ((Ro', ()) : RT X.K τ × Unit)) trivial r3
  refine ⟨G1, oc, _, _, as', k3, e7, fun v G' H' o' B k' rr tt => ?_⟩
  obtain ⟨o4, k4, kp4, tB⟩ := back as' G' H' o' k'
  exact q v G' H' o4 B k4 (g1.trans k'.g) (kp.trans kp4) rr (tB B tt)
/-- o.f, a property -/
theorem XE.prop {CX : CXT} [NoX CX] {Ro Ro' : RT X.K τ} {R : RT X.K ρ} {f : Env [τ] → Option (ρ × Env [τ])} {mo : M αs τ} {C pp fn : Addr} {fd : FuncData} {qs : List Str} {k : Nat}
    (c : Cls X.K C) (hp : PropOf X.K C mn pp fn) (F : FnOk X.prog X.w X.K X.mg X.base CX k fn fd qs (spF ⟨[τ], ((Ro, ()) : RT X.K τ × Unit), ((Ro', ()) : RT X.K τ × Unit), ρ, R, f⟩)) (hr : Room (k + 1) X.A) (hb : Binds X.K fd qs [])
    (hf : Ro.fix = true) (hi : InsOf C mn Ro) (ho : XE X Γ ob Ro mo) (hab : attributeBase ob mn X.env (eval ob X.env) = eval ob X.env := by rfl) :
    XE X Γ (.Attribute ob mn pos) R (mCall (.v .nil) f (aV mo aNil)) := by
  intro C0 s σ G H o k0 z s' hm' Q q
  obtain ⟨⟨as, s2⟩, e1, e2⟩ := bindE hm'
  obtain ⟨⟨t, s1⟩, e3, e4⟩ := bindE e1
  cases e4
  obtain ⟨⟨r, as'⟩, e7, e8⟩ := bindE e2
  cases e8
  refine wE_of (pe_prop (dvs := []) (E := E0) pe_w c hp F hr hb .nil passE hab) ?_
  refine ho C0 s σ G H o k0 t _ e3 _ fun v G1 H1 o1 B k1 g1 kp r1 t1 => ?_
  have hs := (cpy_of hf _ _ _ _ _).mp r1
  obtain ⟨a, dx, fs, rfl, ha', hl⟩ := hi _ _ _ hs
  refine ⟨a, dx, fs, rfl, k1.gh _ _ ha', ?_⟩
  have r3 : AOk Γ s1 σ G1 (.v .nil) ((Ro, ()) : RT X.K τ × Unit) ((some t, ()) : Option τ × Unit) [V.ref a] := ⟨.ref a, [], rfl, hf, fun y hy => by
    cases hy
    exact hs, rfl⟩
  obtain ⟨oc, k3, back⟩ := k1.call (.v .nil) (by simp [Ks.ixs]) (Γo := ((Ro', ()) : RT X.K τ × Unit)) trivial r3
  refine ⟨G1, oc, _, _, as', k3, e7, fun v G' H' o' B k' rr tt => ?_⟩
  obtain ⟨o4, k4, kp4, tB⟩ := back as' G' H' o' k'
  exact q v G' H' o4 B k4 (g1.trans k'.g) (kp.trans kp4) rr (tB B tt)

/-! ### own in, own len -/
def rInO (C : Addr) (sp : Sp) (neg : Bool) : R2 := fun x y H Q => ∃ p dx fs, y = .ref p ∧ H p = some (.ins C dx fs) ∧ sp [y, x] H (fun v H' => ∃ b : Bool, v = .bl b ∧ Q (.bl (if neg then !b else b)) H') E0
section
variable {C fn : Addr} {fd : FuncData} {qs : List Str} {k : Nat} {sp : Sp}
theorem op_inO {CX : CXT} [NoX CX] (F : FnOk X.prog X.w X.K X.mg X.base CX k fn fd qs sp) (hr : Room k X.A) (hb : Binds X.K fd qs []) (hs : PySem.W.findIn X.K (.ref C) "__contains__" = some (some (.ref fn))) (hf : PySem.W.isFn X.K (.ref fn) = true) : OpR X (compareOp .In) (rInO C sp false) := by
  intro pins s σ H x y v u Q I rx ry h
  obtain ⟨p, dx, fs, rfl, hp, hq⟩ := h
  cases ry
  obtain ⟨mA, J, _⟩ := ins_get I.hok hp
  obtain ⟨od, J, _⟩ := J.look
  obtain ⟨m, hF⟩ := I.fr
  refine PySem.W.in_K hF I.ok.mod.kin J hs hf ?_
  refine thn (run_fn (us := [Value.ref p, v]) (vs := [V.ref p, x]) F hr hb .nil passE I (.cons rfl (.cons rx .nil)) hq) fun r s' ⟨w, H', I', rw', b, e, q⟩ => ?_
  subst e
  cases rw'
  exact wpAny_truthy_bool ⟨.bl b, H', I', rfl, by simpa using q⟩
theorem op_notInO {CX : CXT} [NoX CX] (F : FnOk X.prog X.w X.K X.mg X.base CX k fn fd qs sp) (hr : Room k X.A) (hb : Binds X.K fd qs []) (hs : PySem.W.findIn X.K (.ref C) "__contains__" = some (some (.ref fn))) (hf : PySem.W.isFn X.K (.ref fn) = true) : OpR X (compareOp .NotIn) (rInO C sp true) := by
  intro pins s σ H x y v u Q I rx ry h
  obtain ⟨p, dx, fs, rfl, hp, hq⟩ := h
  cases ry
  obtain ⟨mA, J, _⟩ := ins_get I.hok hp
  obtain ⟨od, J, _⟩ := J.look
  obtain ⟨m, hF⟩ := I.fr
  refine PySem.W.notIn_K hF I.ok.mod.kin J hs hf ?_
  refine thn (run_fn (us := [Value.ref p, v]) (vs := [V.ref p, x]) F hr hb .nil passE I (.cons rfl (.cons rx .nil)) hq) fun r s' ⟨w, H', I', rw', b, e, q⟩ => ?_
  subst e
  cases rw'
  exact wpAny_truthy_bool ⟨.bl (!b), H', I', rfl, by simpa using q⟩
def rLenO (C : Addr) (sp : Sp) : List V → Hp → VK → Prop := fun xs H Q => ∃ p dx fs, xs = [.ref p] ∧ H p = some (.ins C dx fs) ∧ sp [.ref p] H (fun v H' => ∃ n : Int, v = .int n ∧ 0 ≤ n ∧ n < 2 ^ 63 ∧ Q (.int n) H') E0
theorem call_lenO {CX : CXT} [NoX CX] (F : FnOk X.prog X.w X.K X.mg X.base CX k fn fd qs sp) (hr : Room (k + 1) X.A) (hb : Binds X.K fd qs []) (hs : PySem.W.findIn X.K (.ref C) "__len__" = some (some (.ref fn))) (hf : PySem.W.isFn X.K (.ref fn) = true) : CallR X (.builtin "len") (rLenO C sp) := by
  intro pins s σ H xs us Q I r h
  obtain ⟨p, dx, fs, rfl, hp, hq⟩ := h
  cases r with
  | cons r0 r =>
    cases r
    cases r0
    obtain ⟨mA, J, _⟩ := ins_get I.hok hp
    obtain ⟨od, J, _⟩ := J.look
    obtain ⟨m, hF⟩ := I.fr
    refine PySem.W.len_K hF I.ok.mod.kin J hs hf ?_
    have hl : ([Value.ref p] ++ []).length = qs.length := by
      rw [← F.len _ _ _ _ hq]; rfl
    refine wpAny_call (codeAny_mono (F.run X.A.in1 X.stack s H ⟨[.ref p], []⟩ [.ref p] [.ref p] _ E0 hr.in1 I.env0.in1 (hb s [.ref p] I.kIn hl) (.cons rfl .nil) hq) fun r s' hq => ?_)
    cases r with
    | error er => exact passE pins σ H s er s' I hq
    | ok fl =>
      cases fl with
      | ret u =>
        obtain ⟨v, H', I3, rv, nn, e, h0, h1, q3⟩ := I.after hq
        subst e
        cases rv
        rename_i tt ht
        subst ht
        exact ⟨⟨h0, h1⟩, ⟨.int nn, H', I3.tok _, ⟨_, rfl⟩, q3⟩⟩
      | next => exact False.elim hq
      | brk => exact False.elim hq
      | cont => exact False.elim hq
/-- x in o, x not in o -/
def mIn (neg : Bool) (f : Env [τ, α] → Option (Bool × Env [τ, α])) (ma : M αs α) (mo : M αs τ) : M αs Bool := fun s => (ma s).bind fun p => (mo p.2).bind fun q => (f ((some q.1, (some p.1, ())) : Option τ × (Option α × Unit))).bind fun r => some (if neg then !r.1 else r.1, q.2)
theorem inO_run {Ro Ro' : RT X.K τ} {Ra Ra' : RT X.K α} {f : Env [τ, α] → Option (Bool × Env [τ, α])} {ma : M αs α} {mo : M αs τ} {neg : Bool} (hfo : Ro.fix = true) (hfa : Ra.fix = true) (hi : InsOf C mn Ro) (ha : XE X Γ a Ra ma) (ho : XE X Γ b Ro mo)
    (C0 : C0) (s : Env αs) (σ : L2.St) (G H : Hp) (o : Addr → Option Nat) (k0 : Ok C0 Γ s σ G H o) (z : Bool) (s' : Env αs) (hm' : mIn neg f ma mo s = some (z, s')) (Q : VK)
    (q : ∀ (G' H' : Hp) (o' : Addr → Option Nat), Ok C0 Γ s' σ G' H' o' → Ex G G' → Kp Γ s s' → Q (.bl z) H') :
    tOp (rInO C (spF ⟨[τ, α], ((Ro, Ra, ()) : RT X.K τ × RT X.K α × Unit), ((Ro', Ra', ()) : RT X.K τ × RT X.K α × Unit), Bool, RT.dat X.K Bool, f⟩) neg) (wE X a) (wE X b) σ H Q := by
  obtain ⟨⟨x, s1⟩, e1, hm'⟩ := bindE hm'
  obtain ⟨⟨t, s2⟩, e2, hm'⟩ := bindE hm'
  obtain ⟨⟨r, as'⟩, e3, hm'⟩ := bindE hm'
  cases hm'
  refine ha C0 s σ G H o k0 x s1 e1 _ fun v G1 H1 o1 B k1 g1 kp r1 t1 => ?_
  refine ho C0 s1 σ G1 H1 o1 k1 t _ e2 _ fun u G2 H2 o2 B' k2 g2 kp2 r2 t2 => ?_
  have hs := (cpy_of hfo _ _ _ _ _).mp r2
  have hsa := Ra.smono ((cpy_of hfa _ _ _ _ _).mp r1) g2
  obtain ⟨p, dx, fs, rfl, hp, hl⟩ := hi _ _ _ hs
  have r3 : AOk Γ s2 σ G2 (.v (.v .nil)) ((Ro, Ra, ()) : RT X.K τ × RT X.K α × Unit) ((some t, some x, ()) : Option τ × Option α × Unit) [V.ref p, v] := ⟨.ref p, [v], rfl, hfo, fun y hy => by
    cases hy
    exact hs, v, [], rfl, hfa, fun y hy => by
    cases hy
    exact hsa, rfl⟩
  obtain ⟨oc, k3, back⟩ := k2.call (.v (.v .nil)) (by simp [Ks.ixs]) (Γo := ((Ro', Ra', ()) : RT X.K τ × RT X.K α × Unit)) trivial r3
  refine ⟨p, dx, fs, rfl, k2.gh _ _ hp, G2, oc, _, _, as', k3, e3, fun w G' H' o' B k' rr tt => ?_⟩
  obtain ⟨o4, k4, kp4, tB⟩ := back as' G' H' o' k'
  cases dq_bl rr
  exact ⟨r, rfl, q G' H' o4 k4 ((g1.trans g2).trans k'.g) ((kp.trans kp2).trans kp4)⟩
theorem XC.inO {CX : CXT} [NoX CX] {Ro Ro' : RT X.K τ} {Ra Ra' : RT X.K α} {f : Env [τ, α] → Option (Bool × Env [τ, α])} {ma : M αs α} {mo : M αs τ} (F : FnOk X.prog X.w X.K X.mg X.base CX k fn fd qs (spF ⟨[τ, α], ((Ro, Ra, ()) : RT X.K τ × RT X.K α × Unit), ((Ro', Ra', ()) : RT X.K τ × RT X.K α × Unit), Bool, RT.dat X.K Bool, f⟩))
    (hr : Room k X.A) (hb : Binds X.K fd qs []) (hs : PySem.W.findIn X.K (.ref C) "__contains__" = some (some (.ref fn))) (hf : PySem.W.isFn X.K (.ref fn) = true) (hfo : Ro.fix = true) (hfa : Ra.fix = true) (hi : InsOf C "__contains__" Ro) (ha : XE X Γ a Ra ma) (ho : XE X Γ b Ro mo) (hm : behindInMarks .In b = false := by rfl) : XC X Γ .In a b (mIn false f ma mo) :=
  ⟨hm, _, op_inO F hr hb hs hf, fun C0 s σ G H o k0 z s' hm' Q q => inO_run hfo hfa hi ha ho C0 s σ G H o k0 z s' hm' Q q⟩
theorem XC.notInO {CX : CXT} [NoX CX] {Ro Ro' : RT X.K τ} {Ra Ra' : RT X.K α} {f : Env [τ, α] → Option (Bool × Env [τ, α])} {ma : M αs α} {mo : M αs τ} (F : FnOk X.prog X.w X.K X.mg X.base CX k fn fd qs (spF ⟨[τ, α], ((Ro, Ra, ()) : RT X.K τ × RT X.K α × Unit), ((Ro', Ra', ()) : RT X.K τ × RT X.K α × Unit), Bool, RT.dat X.K Bool, f⟩))
    (hr : Room k X.A) (hb : Binds X.K fd qs []) (hs : PySem.W.findIn X.K (.ref C) "__contains__" = some (some (.ref fn))) (hf : PySem.W.isFn X.K (.ref fn) = true) (hfo : Ro.fix = true) (hfa : Ra.fix = true) (hi : InsOf C "__contains__" Ro) (ha : XE X Γ a Ra ma) (ho : XE X Γ b Ro mo) (hm : behindInMarks .NotIn b = false := by rfl) : XC X Γ .NotIn a b (mIn true f ma mo) :=
  ⟨hm, _, op_notInO F hr hb hs hf, fun C0 s σ G H o k0 z s' hm' Q q => inO_run hfo hfa hi ha ho C0 s σ G H o k0 z s' hm' Q q⟩
noncomputable def len63 : Int → Option Int := (Seal fun (n : Int) => if 0 ≤ n ∧ n < 2 ^ 63 then some n else none).1
theorem len63_eq (n : Int) : len63 n = if 0 ≤ n ∧ n < 2 ^ 63 then some n else none := by unfold len63; rw [(Seal _).2]
noncomputable def mLenO (f : Env [τ] → Option (Int × Env [τ])) (mo : M αs τ) : M αs Int := fun s => (mo s).bind fun p => (f ((some p.1, ()) : Option τ × Unit)).bind fun r => (len63 r.1).bind fun n => some (n, p.2)
theorem XE.lenO {CX : CXT} [NoX CX] {Ro Ro' : RT X.K τ} {f : Env [τ] → Option (Int × Env [τ])} {mo : M αs τ} {p : Pos} (F : FnOk X.prog X.w X.K X.mg X.base CX k fn fd qs (spF ⟨[τ], ((Ro, ()) : RT X.K τ × Unit), ((Ro', ()) : RT X.K τ × Unit), Int, RT.dat X.K Int, f⟩)) (hr : Room (k + 1) X.A) (hb : Binds X.K fd qs [])
    (hs : PySem.W.findIn X.K (.ref C) "__len__" = some (some (.ref fn))) (hf : PySem.W.isFn X.K (.ref fn) = true) (hfo : Ro.fix = true) (hi : InsOf C "__len__" Ro) (hg : Gl X "len") (hm : X.mg "len" = none) (ho : XE X Γ a Ro mo)
    (he : starEach [a] X.env = [(false, eval a X.env)] := by rfl) : XE X Γ (.Call (.Name "len" p) [a] [] pos) (RT.dat X.K Int) (mLenO f mo) := by
  intro C0 s σ G H o k0 z s' hm' Q q
  obtain ⟨⟨t, s2⟩, e2, hm'⟩ := bindE hm'
  obtain ⟨⟨r, as'⟩, e3, hm'⟩ := bindE hm'
  obtain ⟨nn, e4, hm'⟩ := bindE hm'
  cases hm'
  rw [len63_eq] at e4
  obtain ⟨hz, rfl⟩ := ite_some e4
  refine wE_of (pe_callB (call_lenO F hr hb hs hf) hg hm PySem.boot_len (pa_cons pe_w pa_nil he) (he := he)) ?_
  refine ho C0 s σ G H o k0 t _ e2 _ fun u G2 H2 o2 B' k2 g2 kp2 r2 t2 => ?_
  have hss := (cpy_of hfo _ _ _ _ _).mp r2
  obtain ⟨p, dx, fs, rfl, hp, hl⟩ := hi _ _ _ hss
  have r3 : AOk Γ s2 σ G2 (.v .nil) ((Ro, ()) : RT X.K τ × Unit) ((some t, ()) : Option τ × Unit) [V.ref p] := ⟨.ref p, [], rfl, hfo, fun y hy => by
    cases hy
    exact hss, rfl⟩
  obtain ⟨oc, k3, back⟩ := k2.call (.v .nil) (by simp [Ks.ixs]) (Γo := ((Ro', ()) : RT X.K τ × Unit)) trivial r3
  refine ⟨p, dx, fs, rfl, k2.gh _ _ hp, G2, oc, _, _, as', k3, e3, fun w G' H' o' B k' rr tt => ?_⟩
  obtain ⟨o4, k4, kp4, tB⟩ := back as' G' H' o' k'
  cases dq_int rr
  exact ⟨_, rfl, hz.1, hz.2, q _ G' H' o4 (fun _ => False) k4 (g2.trans k'.g) (kp2.trans kp4) (show Dq X.K G' (.int _) (.int _) from .int _) tmp0⟩
end
end
end Sm
/-! S14: the class Tree: an object that is being made (tm), and one that is shared (tree). -/
namespace Sm
open PySem PySem.Spec L2
open Enc (enc)

@[ext] structure TreeD where
  ps : List Int
  ls : List Int
  hs : List Int
  deriving DecidableEq
def tfl (a b c : Addr) : List (Str × V) := putF "heights" (.ref c) (putF "lengths" (.ref b) (putF "parents" (.ref a) []))
theorem kpl : ¬ (("parents" : Str) = "lengths") := by decide +kernel
theorem kph : ¬ (("parents" : Str) = "heights") := by decide +kernel
theorem klh : ¬ (("lengths" : Str) = "heights") := by decide +kernel
theorem tfl_p (a b c : Addr) : (tfl a b c).lookup ("parents" : Str) = some (.ref a) := by
  unfold tfl; rw [lookup_putF, if_neg kph, lookup_putF, if_neg kpl, lookup_putF, if_pos rfl]
theorem tfl_l (a b c : Addr) : (tfl a b c).lookup ("lengths" : Str) = some (.ref b) := by
  unfold tfl; rw [lookup_putF, if_neg klh, lookup_putF, if_pos rfl]
theorem tfl_h (a b c : Addr) : (tfl a b c).lookup ("heights" : Str) = some (.ref c) := by
  unfold tfl; rw [lookup_putF, if_pos rfl]
theorem tfl_no (a b c : Addr) {m : Str} (h1 : ¬ m = "parents") (h2 : ¬ m = "lengths") (h3 : ¬ m = "heights") : (tfl a b c).lookup m = none := by
  unfold tfl; rw [lookup_putF, if_neg h3, lookup_putF, if_neg h2, lookup_putF, if_neg h1]; rfl
/-- what stands at v: a new instance, or a tree -/
def TmR (C : Addr) (A : Addr → Prop) (H : Hp) (v : V) : Option TreeD → Prop
  | none => ∃ p dx, v = .ref p ∧ A p ∧ H p = some (.ins C dx [])
  | some t => ∃ p dx a b c, v = .ref p ∧ A p ∧ A a ∧ A b ∧ A c ∧ H p = some (.ins C dx (tfl a b c)) ∧ H a = some (.lst (t.ps.map V.int)) ∧ H b = some (.lst (t.ls.map V.int)) ∧ H c = some (.lst (t.hs.map V.int)) ∧ a ≠ b ∧ a ≠ c ∧ b ≠ c
theorem TmR.mono {C : Addr} {A B : Addr → Prop} {H H' : Hp} {v : V} (f : ∀ a, A a → B a) (h : ∀ a o, A a → H a = some o → H' a = some o) : ∀ {t : Option TreeD}, TmR C A H v t → TmR C B H' v t
  | none, ⟨p, dx, e, k, hp⟩ => ⟨p, dx, e, f _ k, h _ _ k hp⟩
  | some _, ⟨p, dx, a, b, c, e, k, ka, kb, kc, hp, ha, hb, hc, n⟩ => ⟨p, dx, a, b, c, e, f _ k, f _ ka, f _ kb, f _ kc, h _ _ k hp, h _ _ ka ha, h _ _ kb hb, h _ _ kc hc, n⟩
/-- an object that is being made -/
def RT.tm (K : Fr) (C : Addr) : RT K (Option TreeD) where
  rel := fun _ H v t A => TmR C A H v t
  shr := fun G v t => TmR C (fun _ => True) G v t
  fix := false
  grow := fun h _ f => h.mono (fun _ z => z) fun a o k e => (f a k).trans e
  view := fun h g f => h.mono (fun _ _ => trivial) f
  smono := fun h e => h.mono (fun _ z => z) fun a o _ q => e a o q
  wid := fun h f => h.mono f fun _ _ _ e => e
  ok := .inr ⟨rfl, fun _ _ _ _ _ _ h _ => h⟩
/-- a tree that is shared -/
def RT.tree (K : Fr) (C : Addr) : RT K TreeD where
  rel := fun G _ v t _ => TmR C (fun _ => True) G v (some t)
  shr := fun G v t => TmR C (fun _ => True) G v (some t)
  fix := true
  grow := fun h e _ => h.mono (fun _ z => z) fun a o _ q => e a o q
  view := fun h e _ => h.mono (fun _ z => z) fun a o _ q => e a o q
  smono := fun h e => h.mono (fun _ z => z) fun a o _ q => e a o q
  wid := fun h _ => h
  ok := .inl ⟨rfl, fun _ _ _ _ _ => Iff.rfl⟩
theorem tm_mk {K : Fr} {C p dx a b c : Addr} {t : TreeD} {A : Addr → Prop} {G H : Hp} (op : A p) (oa : A a) (ob : A b) (oc : A c) (hp : H p = some (.ins C dx (tfl a b c))) (ha : H a = some (.lst (t.ps.map V.int))) (hb : H b = some (.lst (t.ls.map V.int))) (hc : H c = some (.lst (t.hs.map V.int)))
    (nab : a ≠ b) (nac : a ≠ c) (nbc : b ≠ c) : (RT.tm K C).rel G H (.ref p) (some t) A := ⟨p, dx, a, b, c, rfl, op, oa, ob, oc, hp, ha, hb, hc, nab, nac, nbc⟩
/-- what the walk asks of the class -/
structure TC (K : Fr) (C : Addr) : Prop where
  cl : Cls K C
  nP : NoAttr K C "parents"
  nL : NoAttr K C "lengths"
  nH : NoAttr K C "heights"

theorem tm_new {K : Fr} {C : Addr} (G H : Hp) (p dx : Addr) (A : Addr → Prop) (h : H p = some (.ins C dx [])) (a : A p) : (RT.tm K C).rel G H (.ref p) none A := ⟨p, dx, rfl, a, h⟩
theorem tree_ins {K : Fr} {C : Addr} {m : Str} (h1 : ¬ m = "parents") (h2 : ¬ m = "lengths") (h3 : ¬ m = "heights") : InsOf C m (RT.tree K C) := fun G v t ⟨p, dx, a, b, c, e, _, _, _, _, hp, _⟩ => ⟨p, dx, _, e, hp, tfl_no a b c h1 h2 h3⟩
theorem ints_all2 {K : Fr} {G : Hp} : ∀ (xs : List Int), All2 (fun v x => Dq K G v (enc x)) (xs.map V.int) xs
  | [] => trivial
  | i :: is => ⟨.int i, ints_all2 is⟩
theorem dq_ints {K : Fr} {G : Hp} {a : Addr} {xs : List Int} (h : G a = some (.lst (xs.map V.int))) : Dq K G (.ref a) (enc xs) := .lst h (dqAll_all2.mpr (ints_all2 xs))
def idO {α : Type} (x : Option α) : Option α := x
def fPs (t : TreeD) : Option (List Int) := some t.ps
def fLs (t : TreeD) : Option (List Int) := some t.ls
def fHs (t : TreeD) : Option (List Int) := some t.hs
section
variable {X : Cx} {αs : List Type} {Γ Γ1 Γ2 Γ' Γt : RTs X.K αs} {α β γ ρ τ : Type} {e a b c tg iter ob : Expr} {es : List Expr} {pos apos cpos p p1 p2 p3 p4 p5 p6 p7 p8 p9 q1 q2 q3 q4 q5 q6 q7 q8 q9 pn : Pos} {n n1 n2 n3 mn : Str} {C : Addr} {P : Pk X.K αs ρ}
theorem XE.tree {m : M αs (Option TreeD)} (h : XE X Γ e (RT.tm X.K C) m) : XE X Γ e (RT.tree X.K C) (m1 idO m) := by
  intro C0 s σ G H o k z s' hm Q q
  obtain ⟨x, h1, h2⟩ := m1E hm
  cases h2
  exact (XE.freeze h) C0 s σ G H o k (some z) s' h1 Q fun v G' H' o' B k' g' kp r t => q v G' H' o' B k' g' kp r t
theorem XE.fPs {m : M αs TreeD} (T : TC X.K C) (ho : XE X Γ ob (RT.tree X.K C) m) (hb : attributeBase ob "parents" X.env (eval ob X.env) = eval ob X.env := by rfl) : XE X Γ (.Attribute ob "parents" pos) (RT.dat X.K (List Int)) (m1 Sm.fPs m) :=
  .un (r := fun x H Q => ∃ a C dx fs v, x = .ref a ∧ H a = some (.ins C dx fs) ∧ Cls X.K C ∧ NoAttr X.K C "parents" ∧ fs.lookup ("parents" : Str) = some v ∧ Q v H) (pe_fld pe_w hb) ho rfl fun G H v t z Q e ⟨p, dx, a, b, c, ev, _, _, _, _, hp, ha, hb, hc, _⟩ hz q => by
    cases hz
    exact ⟨p, C, dx, _, _, ev, e _ _ hp, T.cl, T.nP, tfl_p a b c, here (z := t.ps) e (dq_ints ha) q⟩
theorem XE.fLs {m : M αs TreeD} (T : TC X.K C) (ho : XE X Γ ob (RT.tree X.K C) m) (hb : attributeBase ob "lengths" X.env (eval ob X.env) = eval ob X.env := by rfl) : XE X Γ (.Attribute ob "lengths" pos) (RT.dat X.K (List Int)) (m1 Sm.fLs m) :=
  .un (r := fun x H Q => ∃ a C dx fs v, x = .ref a ∧ H a = some (.ins C dx fs) ∧ Cls X.K C ∧ NoAttr X.K C "lengths" ∧ fs.lookup ("lengths" : Str) = some v ∧ Q v H) (pe_fld pe_w hb) ho rfl fun G H v t z Q e ⟨p, dx, a, b, c, ev, _, _, _, _, hp, ha, hb, hc, _⟩ hz q => by
    cases hz
    exact ⟨p, C, dx, _, _, ev, e _ _ hp, T.cl, T.nL, tfl_l a b c, here (z := t.ls) e (dq_ints hb) q⟩
theorem XE.fHs {m : M αs TreeD} (T : TC X.K C) (ho : XE X Γ ob (RT.tree X.K C) m) (hb : attributeBase ob "heights" X.env (eval ob X.env) = eval ob X.env := by rfl) : XE X Γ (.Attribute ob "heights" pos) (RT.dat X.K (List Int)) (m1 Sm.fHs m) :=
  .un (r := fun x H Q => ∃ a C dx fs v, x = .ref a ∧ H a = some (.ins C dx fs) ∧ Cls X.K C ∧ NoAttr X.K C "heights" ∧ fs.lookup ("heights" : Str) = some v ∧ Q v H) (pe_fld pe_w hb) ho rfl fun G H v t z Q e ⟨p, dx, a, b, c, ev, _, _, _, _, hp, ha, hb, hc, _⟩ hz q => by
    cases hz
    exact ⟨p, C, dx, _, _, ev, e _ _ hp, T.cl, T.nH, tfl_h a b c, here (z := t.hs) e (dq_ints hc) q⟩

/-! ### within __init__ -/
/-- new cells are taken by a slot -/
theorem Ok.adopt {C0 : C0} {s : Env αs} {σ : L2.St} {G H : Hp} {o : Addr → Option Nat} (k : Ok C0 Γ s σ G H o) (i : Nat) {B : Addr → Prop} [DecidablePred B] (t : Tmp C0 B G H o) : Ok C0 Γ s σ G H (fun a => if B a then some i else o a) := by
  refine ⟨k.g, k.gh, k.new, k.fr, k.dom, k.imm, fun a ha => ?_, k.len, fun α x y hy => ?_⟩
  · by_cases h : B a
    · exact ⟨(t a h).2.1, (t a h).2.2.1, (t a h).2.2.2⟩
    · simp only [h, if_false] at ha; exact k.own a ha
  · obtain ⟨v, e, r⟩ := k.sl α x y hy
    refine ⟨v, e, (x.rt Γ).wid r fun a ha => ?_⟩
    have ha' : o a = some x.idx := ha
    have h : ¬ B a := fun h => by rw [(t a h).1] at ha'; cases ha'
    show (if B a then some i else o a) = _
    rw [if_neg h]; exact ha'
theorem Ok.tmAt {C0 : C0} {s : Env αs} {σ : L2.St} {G H : Hp} {o : Addr → Option Nat} (k : Ok C0 Γ s σ G H o) {x : Var αs (Option TreeD)} (hx : Sub (x.rt Γ) (RT.tm X.K C)) {t : Option TreeD} (h : x.get s = some t) :
    ∃ v, σ[x.idx]? = some (some v) ∧ TmR C (fun a => o a = some x.idx) H v t ∧ (x.rt Γ).rel G H v t (fun a => o a = some x.idx) := by
  obtain ⟨v, e, r⟩ := k.sl _ x t h
  exact ⟨v, e, hx.to r, r⟩
/-- self.parents = [i]; self.lengths = [j]; self.heights = [l] -/
def sT0 (x : Var αs (Option TreeD)) (i j l : Int) : MS αs ρ := fun s => (x.get s).bind fun t => if t = none then some (.nx, x.set (some (some ⟨[i], [j], [l]⟩)) s) else none
theorem XSs.tree0 {x : Var αs (Option TreeD)} {i j l : Int} {k1 k2 k3} {rest : List Stmt} {m : MS αs ρ} (T : TC X.K C) (hpe : ∀ q, PE X (.Name n q) (tVar x.idx)) (hx : Sub (x.rt Γ) (RT.tm X.K C)) (hr : XSs X P Γ Γ2 rest m)
    (h1 : swapsWith (.List [.Constant (.int i) k1 p1] p2) (some (.Attribute (.Name n q1) "parents" q4)) p3.line X.env = pure false := by rfl)
    (h2 : swapsWith (.List [.Constant (.int j) k2 p4] p5) (some (.Attribute (.Name n q2) "lengths" q5)) p6.line X.env = pure false := by rfl)
    (h3 : swapsWith (.List [.Constant (.int l) k3 p7] p8) (some (.Attribute (.Name n q3) "heights" q6)) p9.line X.env = pure false := by rfl) :
    XSs X P Γ Γ2 (.Assign [.Attribute (.Name n q1) "parents" q4] (.List [.Constant (.int i) k1 p1] p2) p3 :: .Assign [.Attribute (.Name n q2) "lengths" q5] (.List [.Constant (.int j) k2 p4] p5) p6 ::
      .Assign [.Attribute (.Name n q3) "heights" q6] (.List [.Constant (.int l) k3 p7] p8) p9 :: rest) (sSeq (sT0 x i j l) m) := by
  classical
  intro C0 s σ G H o k c s' hm D fin
  obtain ⟨⟨c1, s1⟩, e1, e2⟩ := bindE hm
  obtain ⟨t, e3, e4⟩ := bindE e1
  have e5 := ite_some e4
  obtain ⟨rfl, e6⟩ := e5
  cases e6
  obtain ⟨v, h0, ⟨p0, dx, rfl, op, hp⟩, r0⟩ := k.tmAt hx e3
  refine wSs_of (pss_cons (ps_fld (hpe _) (pe_lst (pa_cons pe_int pa_nil)) h1) (pss_cons (ps_fld (hpe _) (pe_lst (pa_cons pe_int pa_nil)) h2) (pss_cons (ps_fld (hpe _) (pe_lst (pa_cons pe_int pa_nil)) h3) pss_w))) ?_
  refine ⟨by show 1 ≤ sizeLine; decide, fun a ha => ?_⟩
  have npa : p0 ≠ a := ne_of_none hp ha
  refine ⟨_, h0, p0, C, dx, [], rfl, (by rw [upd_ne npa]; exact hp), T.cl, T.nP, (by show 0 < 1000; decide), ?_⟩
  refine ⟨by show 1 ≤ sizeLine; decide, fun b hb => ?_⟩
  have npb : p0 ≠ b := fun z => by rw [← z, upd_same] at hb; cases hb
  have nab : a ≠ b := fun z => by rw [← z, upd_ne npa.symm, upd_same] at hb; cases hb
  have hb0 : H b = none := by rw [upd_ne npb.symm, upd_ne nab.symm] at hb; exact hb
  refine ⟨_, h0, p0, C, dx, _, rfl, (by rw [upd_ne npb]; exact upd_same), T.cl, T.nL, (by show 1 < 1000; decide), ?_⟩
  refine ⟨by show 1 ≤ sizeLine; decide, fun d hd => ?_⟩
  have npd : p0 ≠ d := fun z => by rw [← z, upd_same] at hd; cases hd
  have nbd : b ≠ d := fun z => by rw [← z, upd_ne npb.symm, upd_same] at hd; cases hd
  have nad : a ≠ d := fun z => by rw [← z, upd_ne npa.symm, upd_ne nab, upd_ne npa.symm, upd_same] at hd; cases hd
  have hd0 : H d = none := by rw [upd_ne npd.symm, upd_ne nbd.symm, upd_ne npd.symm, upd_ne nad.symm] at hd; exact hd
  refine ⟨_, h0, p0, C, dx, _, rfl, (by rw [upd_ne npd]; exact upd_same), T.cl, T.nH, (by show 2 < 1000; decide), ?_⟩
  -- the new state
  have eh : upd (upd (upd (upd (upd (upd H a (.lst [.int i])) p0 (.ins C dx (putF "parents" (.ref a) []))) b (.lst [.int j])) p0 (.ins C dx (putF "lengths" (.ref b) (putF "parents" (.ref a) [])))) d (.lst [.int l])) p0 (.ins C dx (tfl a b d)) =
      upd (upd (upd (upd H a (.lst [.int i])) b (.lst [.int j])) d (.lst [.int l])) p0 (.ins C dx (tfl a b d)) := by
    funext y
    by_cases hy : y = p0
    · subst hy; rw [upd_same, upd_same]
    · rw [upd_ne hy, upd_ne hy]
      by_cases hy2 : y = d
      · subst hy2; rw [upd_same, upd_same]
      · rw [upd_ne hy2, upd_ne hy2, upd_ne hy]
        by_cases hy3 : y = b
        · subst hy3; rw [upd_same, upd_same]
        · rw [upd_ne hy3, upd_ne hy3, upd_ne hy]
  show (wSs X rest) D σ (upd (upd (upd (upd (upd (upd H a (.lst [.int i])) p0 (.ins C dx (putF "parents" (.ref a) []))) b (.lst [.int j])) p0 (.ins C dx (putF "lengths" (.ref b) (putF "parents" (.ref a) [])))) d (.lst [.int l])) p0 (.ins C dx (tfl a b d)))
  rw [eh]
  have ka := k.al (Al.my k.gh (o := .lst [.int i]) ha)
  have kb := ka.al (Al.my ka.gh (p := b) (o := .lst [.int j]) (by rw [upd_ne nab.symm]; exact hb0))
  have kd := kb.al (Al.my kb.gh (p := d) (o := .lst [.int l]) (by rw [upd_ne nbd.symm, upd_ne nad.symm]; exact hd0))
  have gno : ∀ y, H y = none → G y = none := fun y hy => by
    cases z : G y with
    | none => rfl
    | some u => rw [k.gh _ _ z] at hy; cases hy
  have ono : ∀ y, H y = none → o y = none := fun y hy => by
    cases z : o y with
    | none => rfl
    | some u =>
      obtain ⟨_, ⟨ob, h, _⟩, _⟩ := k.own y (by rw [z]; simp)
      rw [h] at hy; cases hy
  have t3 : Tmp C0 (fun y => y = a ∨ y = b ∨ y = d) G (upd (upd (upd H a (.lst [.int i])) b (.lst [.int j])) d (.lst [.int l])) o := fun y hy => by
    have hy0 : H y = none := by rcases hy with rfl | rfl | rfl <;> assumption
    refine ⟨ono y hy0, gno y hy0, ?_, k.free (.inr hy0)⟩
    rcases hy with rfl | rfl | rfl
    · exact ⟨_, by rw [upd_ne nad, upd_ne nab, upd_same], rfl⟩
    · exact ⟨_, by rw [upd_ne nbd, upd_same], rfl⟩
    · exact ⟨_, upd_same, rfl⟩
  have kk := kd.adopt x.idx t3
  have hp3 : (fun a_1 => if a_1 = a ∨ a_1 = b ∨ a_1 = d then some x.idx else o a_1) p0 = some x.idx := by
    show (if p0 = a ∨ p0 = b ∨ p0 = d then some x.idx else o p0) = some x.idx
    rw [if_neg (by rintro (h | h | h); exact npa h; exact npb h; exact npd h)]; exact op
  have kf := kk.mut x (p := p0) (u := .ins C dx (tfl a b d)) (v := .ref p0) (y := some ⟨[i], [j], [l]⟩) h0 hp3 rfl (hx.of r0 (tm_mk hp3 (if_pos (.inl rfl)) (if_pos (.inr (.inl rfl))) (if_pos (.inr (.inr rfl))) upd_same (by rw [upd_ne npa.symm, upd_ne nad, upd_ne nab, upd_same]; rfl) (by rw [upd_ne npb.symm, upd_ne nbd, upd_same]; rfl) (by rw [upd_ne npd.symm, upd_same]; rfl) nab nad nbd))
  exact hr C0 _ σ G _ _ kf c s' e2 D fin
/-- self.parents.append(y); self.lengths.append(z); self.heights.append(self.heights[y] + z) -/
noncomputable def sTA (x : Var αs (Option TreeD)) (y z : Var αs Int) : MS αs ρ := fun s => (x.get s).bind fun t => t.bind fun t => (y.get s).bind fun i => (z.get s).bind fun j => (idx t.hs i).bind fun h =>
  if t.ps.length < 1000000 ∧ t.ls.length < 1000000 ∧ t.hs.length < 1000000 then some (.nx, x.set (some (some ⟨t.ps ++ [i], t.ls ++ [j], t.hs ++ [h + j]⟩)) s) else none
theorem atI_mapInt (xs : List Int) (i : Int) : atI (xs.map V.int) i = (atI xs i).map V.int := atI_map _ _ _
theorem XSs.treeAdd {x : Var αs (Option TreeD)} {y z : Var αs Int} (T : TC X.K C) (hpx : ∀ q, PE X (.Name n q) (tVar x.idx)) (hpy : ∀ q, PE X (.Name n1 q) (tVar y.idx)) (hpz : ∀ q, PE X (.Name n2 q) (tVar z.idx)) (hx : Sub (x.rt Γ) (RT.tm X.K C)) (hy : y.rt Γ = RT.dat X.K Int) (hz : z.rt Γ = RT.dat X.K Int)
    {a1 a2 a3 c1 c2 c3 b1 b2 b3 d1 d2 d3 d4 d5 d6 : Pos}
    (m1 : PE X (.Call (.Attribute (.Attribute (.Name n q1) "parents" a1) "append" b1) [.Name n1 q2] [] c1) (tBM X.K "list" rAppend (tFld X.K (tVar x.idx) "parents") (tCons (tVar y.idx) tNil)) := by exact pe_bm PySem.F.plainAttrs_list PySem.F.slot_list_append PySem.F.type_list_append mt_append (pe_fld (pv _) rfl) (pa_cons (pv _) pa_nil))
    (m2 : PE X (.Call (.Attribute (.Attribute (.Name n q3) "lengths" a2) "append" b2) [.Name n2 q4] [] c2) (tBM X.K "list" rAppend (tFld X.K (tVar x.idx) "lengths") (tCons (tVar z.idx) tNil)) := by exact pe_bm PySem.F.plainAttrs_list PySem.F.slot_list_append PySem.F.type_list_append mt_append (pe_fld (pv _) rfl) (pa_cons (pv _) pa_nil))
    (m3 : PE X (.Call (.Attribute (.Attribute (.Name n q5) "heights" a3) "append" b3) [.BinOp (.Subscript (.Attribute (.Name n q6) "heights" d1) (.Name n1 q7) d2) .Add (.Name n2 q8) d3] [] c3)
      (tBM X.K "list" rAppend (tFld X.K (tVar x.idx) "heights") (tCons (tOp (rI0 fun i j => .int (i + j)) (tOp (rIxL X.K) (tFld X.K (tVar x.idx) "heights") (tVar y.idx)) (tVar z.idx)) tNil)) := by
        exact pe_bm PySem.F.plainAttrs_list PySem.F.slot_list_append PySem.F.type_list_append mt_append (pe_fld (pv _) rfl) (pa_cons (pe_op op_add (pe_ix ix_list (pe_fld (pv _) rfl) (pv _) (fun _ _ => rfl)) (pv _)) pa_nil))
    (s1 : swapsWith (.Call (.Attribute (.Attribute (.Name n q1) "parents" a1) "append" b1) [.Name n1 q2] [] c1) none d4.line X.env = pure false := by rfl)
    (s2 : swapsWith (.Call (.Attribute (.Attribute (.Name n q3) "lengths" a2) "append" b2) [.Name n2 q4] [] c2) none d5.line X.env = pure false := by rfl)
    (s3 : swapsWith (.Call (.Attribute (.Attribute (.Name n q5) "heights" a3) "append" b3) [.BinOp (.Subscript (.Attribute (.Name n q6) "heights" d1) (.Name n1 q7) d2) .Add (.Name n2 q8) d3] [] c3) none d6.line X.env = pure false := by rfl) :
    XSs X P Γ Γ [.Expr (.Call (.Attribute (.Attribute (.Name n q1) "parents" a1) "append" b1) [.Name n1 q2] [] c1) d4, .Expr (.Call (.Attribute (.Attribute (.Name n q3) "lengths" a2) "append" b2) [.Name n2 q4] [] c2) d5,
      .Expr (.Call (.Attribute (.Attribute (.Name n q5) "heights" a3) "append" b3) [.BinOp (.Subscript (.Attribute (.Name n q6) "heights" d1) (.Name n1 q7) d2) .Add (.Name n2 q8) d3] [] c3) d6] (sTA x y z) := by
  intro C0 s σ G H o k cc s' hm D fin
  obtain ⟨t0, e1, hm1⟩ := bindE hm
  obtain ⟨t, e2, hm2⟩ := bindE hm1
  cases e2
  obtain ⟨i, e3, hm3⟩ := bindE hm2
  obtain ⟨j, e4, hm4⟩ := bindE hm3
  obtain ⟨h, e5, hm5⟩ := bindE hm4
  obtain ⟨hl, e6⟩ := ite_some hm5
  cases e6
  obtain ⟨v, h0, ⟨p0, dx, a, b, c, rfl, op, oa, ob, oc, hp, ha, hb, hc, nab, nac, nbc⟩, r0⟩ := k.tmAt hx e1
  obtain ⟨vi, hi, ri⟩ := k.sl _ y i e3
  rw [hy] at ri
  cases dq_int ri
  obtain ⟨vj, hj, rj⟩ := k.sl _ z j e4
  rw [hz] at rj
  cases dq_int rj
  have npa : p0 ≠ a := fun z => by rw [z, ha] at hp; cases hp
  have npb : p0 ≠ b := fun z => by rw [z, hb] at hp; cases hp
  have npc : p0 ≠ c := fun z => by rw [z, hc] at hp; cases hp
  have lt : ∀ (xs : List Int), xs.length < 1000000 → (xs.map V.int).length < sizeLine := fun xs h => by rw [List.length_map]; exact Nat.lt_trans h (by decide)
  refine wSs_of (pss_cons (ps_expr m1 s1) (pss_cons (ps_expr m2 s2) (pss_one (ps_expr m3 s3)))) ?_
  refine ⟨_, h0, p0, C, dx, _, _, rfl, hp, T.cl, T.nP, tfl_p a b c, .inl ⟨rfl, _, SqL.of ha⟩, _, hi, a, _, _, rfl, rfl, ha, lt _ hl.1, ?_⟩
  refine ⟨_, h0, p0, C, dx, _, _, rfl, (by rw [upd_ne npa]; exact hp), T.cl, T.nL, tfl_l a b c, .inl ⟨rfl, _, SqL.of (by rw [upd_ne nab.symm]; exact hb)⟩, _, hj, b, _, _, rfl, rfl, (by rw [upd_ne nab.symm]; exact hb), lt _ hl.2.1, ?_⟩
  have hc2 : (upd (upd H a (.lst (t.ps.map V.int ++ [V.int i]))) b (.lst (t.ls.map V.int ++ [V.int j]))) c = some (.lst (t.hs.map V.int)) := by rw [upd_ne nbc.symm, upd_ne nac.symm]; exact hc
  have hp2 : (upd (upd H a (.lst (t.ps.map V.int ++ [V.int i]))) b (.lst (t.ls.map V.int ++ [V.int j]))) p0 = some (.ins C dx (tfl a b c)) := by rw [upd_ne npb, upd_ne npa]; exact hp
  refine ⟨_, h0, p0, C, dx, _, _, rfl, hp2, T.cl, T.nH, tfl_h a b c, .inl ⟨rfl, _, SqL.of hc2⟩, _, h0, p0, C, dx, _, _, rfl, hp2, T.cl, T.nH, tfl_h a b c, _, hi, c, _, i, .int h, rfl, rfl, SqL.of hc2, ?_, _, hj, h, j, rfl, rfl, c, _, _, rfl, rfl, hc2, lt _ hl.2.2, ?_⟩
  · rw [atI_mapInt, show atI t.hs i = some h from (idx_eq _ _).symm.trans e5]; rfl
  · have k1 := k.mut x (p := a) (u := .lst (t.ps.map V.int ++ [V.int i])) (v := .ref p0) (y := some ⟨t.ps ++ [i], t.ls, t.hs⟩) h0 oa rfl (hx.of r0 (tm_mk op oa ob oc (by rw [upd_ne npa]; exact hp) (by rw [upd_same]; simp) (by rw [upd_ne nab.symm]; exact hb) (by rw [upd_ne nac.symm]; exact hc) nab nac nbc))
    obtain ⟨v1, h1, _, r1⟩ := k1.tmAt hx (x.get_set _ _)
    rw [h0] at h1; cases h1
    have k2 := k1.mut x (p := b) (u := .lst (t.ls.map V.int ++ [V.int j])) (v := .ref p0) (y := some ⟨t.ps ++ [i], t.ls ++ [j], t.hs⟩) h0 ob rfl (hx.of r1 (tm_mk op oa ob oc hp2 (by rw [upd_ne nab, upd_same]; simp) (by rw [upd_same]; simp) hc2 nab nac nbc))
    have k3 := k2.mut x (p := c) (u := .lst (t.hs.map V.int ++ [V.int (h + j)])) (v := .ref p0) (y := some ⟨t.ps ++ [i], t.ls ++ [j], t.hs ++ [h + j]⟩) h0 oc rfl (hx.of r1 (tm_mk op oa ob oc (by rw [upd_ne npc]; exact hp2) (by rw [upd_ne nac, upd_ne nab, upd_same]; simp) (by rw [upd_ne nbc, upd_same]; simp) (by rw [upd_same]; simp) nab nac nbc))
    have ss : ∀ (u v w : Option (Option TreeD)), x.set w (x.set v (x.set u s)) = x.set w s := by
      intro u v w
      rw [Var.set_set, Var.set_set]
    rw [ss] at k3
    exact fin σ G _ o k3
/-- len(self.parents) while it is made -/
def mLenP (x : Var αs (Option TreeD)) : M αs Int := fun s => (x.get s).bind fun t => t.bind fun t => some ((t.ps.length : Int), s)
theorem XE.lenP {x : Var αs (Option TreeD)} (T : TC X.K C) (hpe : PE X (.Name n q1) (tVar x.idx)) (hx : Sub (x.rt Γ) (RT.tm X.K C)) (hg : Gl X "len") (hm : X.mg "len" = none)
    (hb : attributeBase (.Name n q1) "parents" X.env (eval (.Name n q1) X.env) = eval (.Name n q1) X.env := by rfl) (he : starEach [.Attribute (.Name n q1) "parents" q2] X.env = [(false, eval (.Attribute (.Name n q1) "parents" q2) X.env)] := by rfl) :
    XE X Γ (.Call (.Name "len" p) [.Attribute (.Name n q1) "parents" q2] [] pos) (RT.dat X.K Int) (mLenP x) := by
  intro C0 s σ G H o k z s' hm' Q q
  obtain ⟨t0, e1, hm1⟩ := bindE hm'
  obtain ⟨t, e2, hm2⟩ := bindE hm1
  cases e2
  cases hm2
  obtain ⟨v, h0, ⟨p0, dx, a, b, c, rfl, op, oa, ob, oc, hp, ha, hb', hc, nn⟩, r0⟩ := k.tmAt hx e1
  refine wE_of (pe_callB call_len_seq hg hm PySem.boot_len (pa_cons (pe_fld hpe hb) pa_nil he) (he := he)) ?_
  refine ⟨_, h0, p0, C, dx, _, _, rfl, hp, T.cl, T.nP, tfl_p a b c, a, _, rfl, .inl (SqL.of ha), ?_⟩
  rw [List.length_map]
  exact q _ G H o (fun _ => False) k (Ex.refl _) .refl (show Dq X.K G (.int _) (.int _) from .int _) tmp0
end
end Sm
/-! S15: tuples asked for. -/
namespace Sm
open PySem PySem.Spec L2
open Enc (enc)
theorem ty_sqT {K : Fr} {G : Hp} {p : Addr} {xs : List V} (h : SqT K G p xs) : TyX K G (.ref p) (.type "tuple") := by
  rcases h with (h | ⟨o, h⟩) | h
  · exact .base (.tup h)
  · exact .fTuple h
  · obtain ⟨o, its, n, h1, h2, _⟩ := h
    exact .kTuple h1 h2
theorem ty_tup2 {K : Fr} {α β : Type} [Enc α] [Enc β] (G : Hp) (v : V) (x : α × β) (h : Dq K G v (enc x)) : TyX K G v (.type "tuple") := by
  obtain ⟨p, a, b, rfl, hp, _⟩ := dq_pair h
  exact ty_sqT hp
theorem ty_tup3 {K : Fr} {α β γ : Type} [Enc α] [Enc β] [Enc γ] (G : Hp) (v : V) (x : T3 α β γ) (h : Dq K G v (enc x)) : TyX K G v (.type "tuple") := by
  obtain ⟨p, a, b, c, rfl, hp, _⟩ := dq_t3 h
  exact ty_sqT hp
def lenP {α β : Type} (_ : α × β) : Option Int := some 2
def lenT {α β γ : Type} (_ : T3 α β γ) : Option Int := some 3
section
variable {X : Cx} {αs : List Type} {Γ : RTs X.K αs} {α β γ : Type} {a : Expr} {pos p : Pos}
theorem XE.len2 [Enc α] [Enc β] {ma : M αs (α × β)} (hg : Gl X "len") (hm : X.mg "len" = none) (ha : XE X Γ a (RT.dat X.K (α × β)) ma)
    (he : starEach [a] X.env = [(false, eval a X.env)] := by rfl) : XE X Γ (.Call (.Name "len" p) [a] [] pos) (RT.dat X.K Int) (m1 Sm.lenP ma) :=
  .un (r := fun v H Q => ∃ p ys, [v] = [V.ref p] ∧ (SqL X.K H p ys ∨ SqT X.K H p ys) ∧ Q (.int ys.length) H) (pe_callB call_len_seq hg hm PySem.boot_len (pa_cons pe_w pa_nil he) (he := he)) ha rfl fun G H v x z Q e hx hz q => by
    cases hz
    obtain ⟨p, v1, v2, rfl, hp, h1, h2⟩ := dq_pair hx
    exact ⟨p, _, rfl, .inr (e.t hp), here (z := (2 : Int)) e (.int _) q⟩
theorem XE.len3 [Enc α] [Enc β] [Enc γ] {ma : M αs (T3 α β γ)} (hg : Gl X "len") (hm : X.mg "len" = none) (ha : XE X Γ a (RT.dat X.K (T3 α β γ)) ma)
    (he : starEach [a] X.env = [(false, eval a X.env)] := by rfl) : XE X Γ (.Call (.Name "len" p) [a] [] pos) (RT.dat X.K Int) (m1 Sm.lenT ma) :=
  .un (r := fun v H Q => ∃ p ys, [v] = [V.ref p] ∧ (SqL X.K H p ys ∨ SqT X.K H p ys) ∧ Q (.int ys.length) H) (pe_callB call_len_seq hg hm PySem.boot_len (pa_cons pe_w pa_nil he) (he := he)) ha rfl fun G H v x z Q e hx hz q => by
    cases hz
    obtain ⟨p, v1, v2, v3, rfl, hp, h1, h2, h3⟩ := dq_t3 hx
    exact ⟨p, _, rfl, .inr (e.t hp), here (z := (3 : Int)) e (.int _) q⟩
end
/-! ### a call with one argument of its own, nameless -/
section
variable {X : Cx} {αs : List Type} {Γ : RTs X.K αs} {α β γ ρ : Type} {a : Expr} {pos p : Pos}
def mCallT (f : Env [α] → Option (ρ × Env [α])) (ma : M αs α) : M αs ρ := fun s => (ma s).bind fun p => (f ((some p.1, ()) : Option α × Unit)).bind fun q => some (q.1, p.2)
theorem XE.callT {CX : CXT} [NoX CX] {Ra Ro : RT X.K α} {R : RT X.K ρ} {f : Env [α] → Option (ρ × Env [α])} {ma : M αs α} {fn : Addr} {fd : FuncData} {qs : List Str} {n : Nat} {x : Str}
    (F : FnOk X.prog X.w X.K X.mg X.base CX n fn fd qs (spF ⟨[α], ((Ra, ()) : RT X.K α × Unit), ((Ro, ()) : RT X.K α × Unit), ρ, R, f⟩)) (hr : Room n X.A) (hg : Gl X x) (hm : X.mg x = some (.ref fn)) (hk : PySem.W.keepIn X.K (.ref fn) = true) (hb : Binds X.K fd qs []) (ha : XE X Γ a Ra ma)
    (hdb : (x == ("__debug__" : Str)) = false := by decide) (he : starEach [a] X.env = (false, eval a X.env) :: starEach [] X.env := by rfl) (hpl : (backTo pos (starEach [] X.env)).any (·.1) = false := by rfl) :
    XE X Γ (.Call (.Name x p) [a] [] pos) R (mCallT f ma) := by
  classical
  intro C s σ G H o k z s' hm' Q q
  obtain ⟨⟨y, s1⟩, e1, e2⟩ := bindE hm'
  obtain ⟨⟨r, as'⟩, e3, e4⟩ := bindE e2
  cases e4
  refine wE_of (pe_call F hr hg hm hk hb .nil passE (pa_cons pe_w pa_nil he) hdb he hpl) ?_
  refine ha C s σ G H o k y _ e1 _ fun v G1 H1 o1 B k1 g1 kp r1 t1 => ?_
  have nb : ∀ b, o1 b ≠ none → ¬ B b := fun b h w => h (t1 b w).1
  have oc : ∀ b, ¬ B b → ¬ ((if B b then some 0 else none : Option Nat) ≠ none) := fun b h w => by rw [if_neg h] at w; exact w rfl
  have nm : ∀ b u, ¬ C.M0 b → C.H0 b = some u → ¬ B b := fun b u n h w => by
    rcases (t1 b w).2.2.2 with q | q
    · exact n q
    · rw [q] at h; cases h
  refine ⟨G1, fun b => if B b then some 0 else none, ((some y, ()) : Option α × Unit), r, as', ⟨Ex.refl _, k1.gh, fun _ _ _ h => h, fun _ _ _ h => h, fun _ h => h, fun _ _ h _ => h, fun b hb => ?_, rfl, fun β x w hw => ?_⟩, e3, fun v' G' H' o' B' k' rr tt => ?_⟩
  · have hB : B b := Classical.byContradiction fun h => oc b h hb
    exact ⟨(t1 b hB).2.1, (t1 b hB).2.2.1, .inl hb⟩
  · cases x with
    | vz =>
      have hw' : some y = some w := hw
      cases hw'
      exact ⟨v, rfl, Ra.wid r1 fun b hb => by show (if B b then some 0 else none) = some 0; rw [if_pos hb]⟩
    | vs x => exact nomatch x
  · have hfr : ∀ b u, ¬ B b → H1 b = some u → H' b = some u := fun b u h e => k'.fr b u (oc b h) e
    have k2 : Ok C Γ s1 σ G' H' o1 := by
      refine ⟨k1.g.trans k'.g, k'.gh, fun b n h0 g0 => ?_, fun b u n h0 => hfr b u (nm b u n h0) (k1.fr b u n h0), fun b h0 => k'.dom b (k1.dom b h0), fun b u h0 i => k'.imm b u (k1.imm b u h0 i) i, fun b hb => ?_, k1.len, fun β x w hw => ?_⟩
      · cases w : C.H0 b with
        | none => exact absurd w h0
        | some u => exact k'.new b (oc b (nm b u n w)) (k1.dom b h0) (k1.new b n h0 g0)
      · obtain ⟨h1, ⟨ob, h2, h3⟩, h4⟩ := k1.own b hb
        exact ⟨k'.new b (oc b (nb b hb)) (by show H1 b ≠ none; rw [h2]; simp) h1, ⟨ob, hfr b ob (nb b hb) h2, h3⟩, h4⟩
      · obtain ⟨u, e, r⟩ := k1.sl β x w hw
        refine ⟨u, e, (x.rt Γ).grow r k'.g fun b hb => ?_⟩
        have hb' : o1 b = some x.idx := hb
        obtain ⟨_, ⟨ob, h2, _⟩, _⟩ := k1.own b (by rw [hb']; simp)
        rw [h2, hfr b ob (nb b (by rw [hb']; simp)) h2]
    refine q v' G' H' o1 B' k2 (g1.trans k'.g) kp rr fun b hb => ?_
    obtain ⟨h1, h2, h3, h4⟩ := tt b hb
    have h5 : B b ∨ H1 b = none := by
      rcases h4 with h4 | h4
      · exact .inl (Classical.byContradiction fun h => oc b h h4)
      · exact .inr h4
    refine ⟨?_, h2, h3, ?_⟩
    · rcases h5 with h5 | h5
      · exact (t1 b h5).1
      · cases w : o1 b with
        | none => rfl
        | some i =>
          obtain ⟨_, ⟨ob, h6, _⟩, _⟩ := k1.own b (by rw [w]; simp)
          rw [h6] at h5; cases h5
    · rcases h5 with h5 | h5
      · exact (t1 b h5).2.2.2
      · exact k1.free (.inr h5)
end
end Sm
/-! S16: further facts about the programs (plain Lean). -/
namespace Sm
open PySem PySem.Spec L2
open Enc (enc)
theorem run_eq {α : Type} {o : Option α} {x : α} (h : Run o fun a => a = x) : o = some x := by
  obtain ⟨a, e, rfl⟩ := h
  exact e
theorem Run.eqb {α β : Type} {o : Option α} {a : α} {f : α → Option β} {Q : β → Prop} (h : o = Option.some a) (k : Run (f a) Q) : Run (o.bind f) Q := by rw [h]; exact k
section
variable {αs : List Type} {α β γ ρ : Type}
theorem rng2_at {a n : Int} (h : -(2 ^ 62) ≤ a ∧ a < 2 ^ 62 ∧ -(2 ^ 62) ≤ n ∧ n < 2 ^ 62) : rng2 a n = some ((List.range (n - a).toNat).map fun (i : Nat) => a + (i : Int)) := rng2_ok h
theorem Run.forR2 {a n : Int} {mi : M αs (List Int)} {f : Int → Env αs → Env αs} {m : MS αs ρ} {s s0 : Env αs} (hm : mi s0 = (rng2 a n).bind fun l => .some (l, s)) (hn : -(2 ^ 62) ≤ a ∧ a < 2 ^ 62 ∧ -(2 ^ 62) ≤ n ∧ n < 2 ^ 62) (Inv : Nat → Env αs → Prop) (h : Inv 0 s)
    (st : ∀ (j : Nat) (s : Env αs), (j : Int) < n - a → Inv j s → Run (m (f (a + (j : Int)) s)) fun p => p.1 = .nx ∧ Inv (j + 1) p.2) : Run (sFor mi f m s0) fun p => p.1 = .nx ∧ Inv (n - a).toNat p.2 := by
  obtain ⟨s', h1, h2⟩ := loopF_range (f := f) (m := m) Inv (fun (i : Nat) => a + (i : Int)) (n - a).toNat s h fun j s hj hi => by
    obtain ⟨⟨c, s2⟩, e, h1, h2⟩ := st j s (by omega) hi
    have h1' : c = .nx := h1
    subst h1'
    exact ⟨s2, e, h2⟩
  refine ⟨(.nx, s'), ?_, rfl, h2⟩
  show ((mi s0).bind fun p => loopF f m p.1 p.2) = _
  rw [hm, rng2_ok hn]
  exact h1
theorem loopW_true {mc : M αs Bool} {m : MS αs ρ} {n : Nat} {s s1 s2 : Env αs} {r} (h1 : mc s = some (true, s1)) (h2 : m s1 = some (.nx, s2)) (h3 : loopW mc m n s2 = some r) : loopW mc m (n + 1) s = some r := by
  show ((mc s).bind _) = _
  rw [h1]
  show ((m s1).bind _) = _
  rw [h2]
  exact h3
theorem Run.while {mc : M αs Bool} {m : MS αs ρ} (Inv : Env αs → Prop) (μ : Env αs → Nat) (Post : Env αs → Prop)
    (st : ∀ s, Inv s → Run (mc s) fun p => (p.1 = true ∧ Run (m p.2) fun q => q.1 = .nx ∧ Inv q.2 ∧ μ q.2 < μ s) ∨ (p.1 = false ∧ Post p.2)) (s : Env αs) (h : Inv s) : Run (sWhile mc m s) fun p => p.1 = .nx ∧ Post p.2 := by
  have key : ∀ (k : Nat) (s : Env αs), μ s = k → Inv s → ∃ n s', loopW mc m n s = Option.some (Ctl.nx, s') ∧ Post s' := by
    intro k
    induction k using Nat.strongRecOn with
    | _ k ih =>
      intro s hk hi
      obtain ⟨⟨b, s1⟩, e, h | h⟩ := st s hi
      · obtain ⟨hb, ⟨c, s2⟩, e2, hc, h2, h3⟩ := h
        have hb' : b = true := hb
        have hc' : c = .nx := hc
        subst hb' hc'
        obtain ⟨n, s', h4, h5⟩ := ih (μ s2) (by rw [← hk]; exact h3) s2 rfl h2
        exact ⟨n + 1, s', loopW_true e e2 h4, h5⟩
      · obtain ⟨hb, h2⟩ := h
        have hb' : b = false := hb
        subst hb'
        refine ⟨1, s1, ?_, h2⟩
        show ((mc s).bind _) = _
        rw [e]; rfl
  obtain ⟨n, s', h1, h2⟩ := key (μ s) s rfl h
  exact ⟨(.nx, s'), sWhile_of h1, rfl, h2⟩
theorem Run.bodyN {ps ls : List Type} {m : MS (ps ++ ls) Unit} {s : Env ps} {P : Unit × Env ps → Prop} (h : Run (m (ext ls ps s)) fun p => match p.1 with | .rt r => P (r, prj ls ps p.2) | .nx => P ((), prj ls ps p.2) | _ => False) : Run (bodyN m s) P := by
  obtain ⟨⟨c, s'⟩, e, h⟩ := h
  unfold Sm.bodyN
  rw [e]
  cases c with
  | rt r => exact ⟨_, rfl, h⟩
  | nx => exact ⟨_, rfl, h⟩
  | bk => exact h.elim
  | ct => exact h.elim
/-- a comprehension of a list, all items taken -/
theorem loopC_map {f : α → Env αs → Env αs} {rs : Env αs → Env αs → Env αs} {mt : M αs Bool} {me : M αs β} {g : α → β} {s : Env αs} : ∀ (xs : List α), (∀ x ∈ xs, ∃ s1 s2, mt (f x s) = some (true, s1) ∧ me s1 = some (g x, s2) ∧ rs s s2 = s) → loopC f rs mt me xs s = some (xs.map g, s)
  | [], _ => rfl
  | x :: xs, h => by
    obtain ⟨s1, s2, h1, h2, h3⟩ := h x List.mem_cons_self
    have ih := loopC_map (f := f) (rs := rs) (mt := mt) (me := me) (g := g) (s := s) xs fun y hy => h y (List.mem_cons_of_mem _ hy)
    show ((mt (f x s)).bind _) = _
    rw [h1]
    show ((me s1).bind _) = _
    rw [h2]
    show ((loopC f rs mt me xs (rs s s2)).bind _) = _
    rw [h3, ih]; rfl
theorem mLc_map {mi : M αs (List α)} {f : α → Env αs → Env αs} {rs : Env αs → Env αs → Env αs} {mt : M αs Bool} {me : M αs β} {g : α → β} {s s0 : Env αs} {xs : List α} (hm : mi s0 = some (xs, s)) (hl : xs.length ≤ 1000000) (h : ∀ x ∈ xs, ∃ s1 s2, mt (f x s) = some (true, s1) ∧ me s1 = some (g x, s2) ∧ rs s s2 = s) :
    mLc mi f rs mt me s0 = some (xs.map g, s) := by
  show ((mi s0).bind fun p => if p.1.length ≤ 1000000 then loopC f rs mt me p.1 p.2 else none) = _
  rw [hm]
  show (if xs.length ≤ 1000000 then _ else none) = _
  rw [if_pos hl]
  exact loopC_map xs h
end
theorem sumLc_eq {αs : List Type} {α : Type} {c : Int} {mi : M αs (List α)} {f : α → Env αs → Env αs} {rs : Env αs → Env αs → Env αs} {mt : M αs Bool} {me : M αs Int} {g : α → Int} {s s0 : Env αs} {xs : List α} (hm : mi s0 = some (xs, s)) (hl : xs.length ≤ 1000000) (h : ∀ x ∈ xs, ∃ s1 s2, mt (f x s) = some (true, s1) ∧ me s1 = some (g x, s2) ∧ rs s s2 = s) :
    m2 iadd (mC c) (m1 isum (mLc mi f rs mt me)) s0 = some (c + (xs.map g).sum, s) := by
  show (((mLc mi f rs mt me s0).bind fun p => (isum p.1).bind fun b => some (b, p.2)).bind fun q => (iadd c q.1).bind fun z => some (z, q.2)) = _
  rw [mLc_map hm hl h]; rfl
theorem ixN_neg {n k : Nat} (h1 : 1 ≤ k) (h2 : k ≤ n) : ixN n (-(k : Int)) = some (n - k) := by
  unfold ixN
  rw [if_neg (by omega), if_pos (by omega)]
  congr 1; omega
theorem idx_neg {α : Type} {xs : List α} {k : Nat} (h1 : 1 ≤ k) (h2 : k ≤ xs.length) : idx xs (-(k : Int)) = xs[xs.length - k]? := by
  rw [idx_eq]; unfold atI
  rw [ixN_neg h1 h2]; rfl
theorem idx_m2 {α : Type} {xs : List α} (h : 2 ≤ xs.length) : idx xs (-2) = xs[xs.length - 2]? := idx_neg (k := 2) (by omega) h
theorem idx_m1 {α : Type} {xs : List α} (h : 1 ≤ xs.length) : idx xs (-1) = xs[xs.length - 1]? := idx_neg (k := 1) (by omega) h
theorem slcB_neg {α : Type} (xs : List α) (k : Nat) (h1 : 1 ≤ k) (h2 : k ≤ xs.length) : slcB xs (-(k : Int)) = some (xs.take (xs.length - k)) := by
  unfold slcB
  rw [slc_eq]
  have e1 : HT.sIx xs.length 0 none = 0 := by simp [HT.sIx]
  have e2 : HT.sIx xs.length xs.length (some (-(k : Int))) = xs.length - k := by
    show (if (-(k : Int)) < 0 then (-(k : Int) + (xs.length : Int)).toNat else min (-(k : Int)).toNat xs.length) = _
    rw [if_pos (by omega)]; omega
  rw [e1, e2]; simp
theorem slcB_m1 {α : Type} (xs : List α) (h : 1 ≤ xs.length) : slcB xs (-1) = some (xs.take (xs.length - 1)) := slcB_neg xs 1 (by omega) h
theorem slcB_nat {α : Type} (xs : List α) (k : Nat) : slcB xs (k : Int) = some (xs.take k) := by
  unfold slcB
  rw [slc_eq]
  have e1 : HT.sIx xs.length 0 none = 0 := by simp [HT.sIx]
  have e2 : HT.sIx xs.length xs.length (some (k : Int)) = min k xs.length := HT.sIx_nat _ _ _
  rw [e1, e2]; simp
theorem slcA_nat {α : Type} (xs : List α) (k : Nat) : slcA xs (k : Int) = some (xs.drop k) := by
  unfold slcA
  rw [slc_eq]
  have e1 : HT.sIx xs.length xs.length none = xs.length := by simp [HT.sIx]
  have e2 : HT.sIx xs.length 0 (some (k : Int)) = min k xs.length := HT.sIx_nat _ _ _
  rw [e1, e2]
  by_cases h : k ≤ xs.length
  · rw [Nat.min_eq_left h, List.take_of_length_le (by simp)]
  · rw [Nat.min_eq_right (by omega), List.drop_eq_nil_of_le (as := xs) (i := k) (by omega)]; simp
theorem catl_ok {α : Type} {xs ys : List α} (h : xs.length + ys.length ≤ 1000000) : catl xs ys = some (xs ++ ys) := (catl_eq _ _).trans (if_pos h)
end Sm
/-! S17: further facts about the programs (plain Lean). -/
namespace Sm
open PySem PySem.Spec L2
open Enc (enc)
theorem loopC_mapi {αs : List Type} {α β γ : Type} {f : α → Env αs → Env αs} {rs : Env αs → Env αs → Env αs} {mt : M αs Bool} {me : M αs β} {h : γ → α} {g : γ → β} {s : Env αs} : ∀ (xs : List γ), (∀ x ∈ xs, ∃ s1 s2, mt (f (h x) s) = some (true, s1) ∧ me s1 = some (g x, s2) ∧ rs s s2 = s) → loopC f rs mt me (xs.map h) s = some (xs.map g, s)
  | [], _ => rfl
  | x :: xs, hh => by
    obtain ⟨s1, s2, h1, h2, h3⟩ := hh x List.mem_cons_self
    have ih := loopC_mapi (f := f) (rs := rs) (mt := mt) (me := me) (h := h) (g := g) (s := s) xs fun y hy => hh y (List.mem_cons_of_mem _ hy)
    show ((mt (f (h x) s)).bind _) = _
    rw [h1]
    show ((me s1).bind _) = _
    rw [h2]
    show ((loopC f rs mt me (xs.map h) (rs s s2)).bind _) = _
    rw [h3, ih]; rfl
theorem mLc_mapi {αs : List Type} {α β γ : Type} {mi : M αs (List α)} {f : α → Env αs → Env αs} {rs : Env αs → Env αs → Env αs} {mt : M αs Bool} {me : M αs β} {h : γ → α} {g : γ → β} {s s0 : Env αs} {xs : List γ} (hm : mi s0 = some (xs.map h, s)) (hl : xs.length ≤ 1000000) (hh : ∀ x ∈ xs, ∃ s1 s2, mt (f (h x) s) = some (true, s1) ∧ me s1 = some (g x, s2) ∧ rs s s2 = s) :
    mLc mi f rs mt me s0 = some (xs.map g, s) := by
  show ((mi s0).bind fun p => if p.1.length ≤ 1000000 then loopC f rs mt me p.1 p.2 else none) = _
  rw [hm]
  show (if (xs.map h).length ≤ 1000000 then _ else none) = _
  rw [if_pos (by rw [List.length_map]; exact hl)]
  exact loopC_mapi xs hh

/-! ### name = [..], shared, or with what is lent -/
section
variable {X : Cx} {αs : List Type} {Γ Γb Γt : RTs X.K αs} {α β γ ρ : Type} {tg iter elt : Expr} {pos : Pos} {ifs : List Expr} {scope : Scope} {own : List (Str × Nat)} {P : Pk X.K αs ρ}
def XV (X : Cx) {αs : List Type} (Γ : RTs X.K αs) (t : TE) {β : Type} (R : RT X.K β) (m : M αs β) : Prop :=
  ∀ (C : C0) (s : Env αs) (σ : L2.St) (G H : Hp) (o : Addr → Option Nat), Ok C Γ s σ G H o → ∀ (x : β) (s' : Env αs), m s = some (x, s') → ∀ Q : VK,
    (∀ (v : V) (G' H' : Hp) (o' : Addr → Option Nat) (B : Addr → Prop), Ok C Γ s' σ G' H' o' → Ex G G' → Kp Γ s s' → R.rel G' H' v x B → Tmp C B G' H' o' → Q v H') → t σ H Q
theorem XV.freeze {R0 : RT X.K β} {m : M αs β} {t : TE} (h : XV X Γ t R0 m) : XV X Γ t (RT.sh R0) m := by
  classical
  intro C s σ G H o k z s' hm Q q
  refine h C s σ G H o k z s' hm Q fun v G1 H1 o1 B k1 g1 kp r1 t1 => ?_
  have ex : Ex G1 (fun a => if B a then H1 a else G1 a) := fun a ob e => by
    by_cases hb : B a
    · have := (t1 a hb).2.1; rw [this] at e; cases e
    · simp [hb, e]
  refine q v (fun a => if B a then H1 a else G1 a) H1 o1 (fun _ => False) ?_ (g1.trans ex) kp (R0.view r1 ex fun a ob hb e => by simp [hb, e]) tmp0
  refine ⟨k1.g.trans ex, fun a ob e => ?_, fun a nm h0 g0 => ?_, k1.fr, k1.dom, k1.imm, fun a ha => ?_, k1.len, fun α x y hx => ?_⟩
  · by_cases hb : B a
    · simpa [hb] using e
    · simp only [hb, if_false] at e
      exact k1.gh a ob e
  · have nb : ¬ B a := fun hb => by
      rcases (t1 a hb).2.2.2 with z | z
      · exact nm z
      · exact h0 z
    simp only [nb, if_false]
    exact k1.new a nm h0 g0
  · obtain ⟨h1, h2, h3⟩ := k1.own a ha
    have nb : ¬ B a := fun hb => ha (t1 a hb).1
    exact ⟨by simp [nb, h1], h2, h3⟩
  · obtain ⟨u, e, r⟩ := k1.sl α x y hx
    exact ⟨u, e, (x.rt Γ).grow r ex fun _ _ => rfl⟩
theorem XV.borrow {t : TE} {R : RT X.K β} {m : M αs β} {α : Type} (x : Var αs α) (h : XV X (x.setR (RT.sh (x.rt Γ)) Γ) t R m) (hR : Lin R) : XV X Γ t R m := by
  intro C s σ G H o k z s' hm Q q
  obtain ⟨C', G1, o1, k1, e1, back⟩ := k.borrow x
  refine h C' s σ G1 H o1 k1 z s' hm Q fun v G' H' o' B k' e' kp r t => ?_
  obtain ⟨G2, o2, k2, e2, ei, kp2, tb⟩ := back s' G' H' o' k' e' kp
  exact q v G2 H' o2 B k2 e2 kp2 (hR _ _ _ _ _ _ r ei) (tb B t)
theorem XV.dat [Enc β] [PureE β] {t : TE} {m : M αs (List β)} (h : XV X Γ t (RT.own X.K β) m) : XV X Γ t (RT.dat X.K (List β)) m := XV.freeze h
/-- name = [..] -/
theorem XS.asgLcG [Enc β] [PureE β] {R : RT X.K α} {R' : RT X.K (List β)} {mi : M αs (List α)} {f : α → Env αs → Env αs} {mt : M αs Bool} {me : M αs β} {z : Var αs (List β)} {n : Str} {py spos : Pos} (hc : X.calm = true) (hN : X.N.Nodup) (ok : BlkOk X.N X.env.scope scope own) (O : Own αs (own.map (·.2)) f)
    (hz : X.N[z.idx]? = some n) (hl : X.env.scope.names.lookup n = some .local) (hsw : swapsWith (.ListComp elt [⟨tg, iter, ifs, 0⟩] scope pos) (some (.Name n py)) spos.line X.env = pure true)
    (hi : XI X Γb tg iter R mi) (hfix : ∀ (γ : Type) (x : Var αs γ), x.idx ∈ own.map (·.2) → (x.rt Γb).fix = true) (hΓ : ∀ (γ : Type) (x : Var αs γ), x.idx ∉ own.map (·.2) → x.rt Γt = x.rt Γb)
    (hg : ∀ (s : Shared) (H : Hp) (C : Addr) (cl : List (Str × Addr)) (fp : List Addr), XG (X.blk s H scope (compEnvC scope cl C X.env) fp) Γb Γt tg R (own.map (·.2)) f)
    (ht : ∀ (s : Shared) (H : Hp) (C : Addr) (cl : List (Str × Addr)) (fp : List Addr), XTs (X.blk s H scope (compEnvC scope cl C X.env) fp) Γt ifs mt)
    (he : ∀ (s : Shared) (H : Hp) (C : Addr) (cl : List (Str × Addr)) (fp : List Addr), XE (X.blk s H scope (compEnvC scope cl C X.env) fp) Γt elt (RT.dat X.K β) me) (hs : ∀ x, foldedSetIterable iter X.env x = pure x := by intro _; rfl)
    (tr : ∀ t : TE, XV X Γb t (RT.own X.K β) (mLc mi f O.rs mt me) → XV X Γ t R' (mLc mi f O.rs mt me)) :
    XS X P Γ (z.setR R' Γ) (.Assign [.Name n py] (.ListComp elt [⟨tg, iter, ifs, 0⟩] scope pos) spos) (sAsg z (mLc mi f O.rs mt me)) := by
  intro C s σ G H o k cc sE hm D fin
  obtain ⟨⟨x, s'⟩, e1, e2⟩ := bindE hm
  cases e2
  refine wS_of (ps_setLc (wi := wI X tg iter) (g := fun v σ H Q => ∀ s H' C cl fp, wG (X.blk s H' scope (compEnvC scope cl C X.env) fp) tg v σ H Q) (tt := fun σ H Q => ∀ s H' C cl fp, wTs (X.blk s H' scope (compEnvC scope cl C X.env) fp) ifs σ H Q) (te := fun σ H Q => ∀ s H' C cl fp, wE (X.blk s H' scope (compEnvC scope cl C X.env) fp) elt σ H Q) hc hN hz hl hsw pi_w ok
    (fun s H' C cl fp => ⟨fun pins st σ H v u Q I r h => h s H' C cl fp pins st u I r⟩) (fun s H' C cl fp => ⟨fun pins st σ H Q I h => h s H' C cl fp pins st I⟩) (fun s H' C cl fp => ⟨fun pins st σ H Q I h => h s H' C cl fp pins st I⟩) hs) ?_
  refine tr _ (lc_read hi O hfix hΓ (fun C s σ G H o k v y r Q q s' H' C' cl fp => hg s' H' C' cl fp C s σ G H o k v y r Q q) (fun C s σ G H o k x s2 e Q q s' H' C' cl fp => ht s' H' C' cl fp C s σ G H o k x s2 e Q q) (fun C s σ G H o k x s2 e Q q s' H' C' cl fp => he s' H' C' cl fp C s σ G H o k x s2 e Q q)) C s σ G H o k x s' e1 _ fun v G1 H1 o1 B k1 g1 kp r t => ?_
  obtain ⟨o2, k2⟩ := k1.set z _ r t
  exact fin _ G1 H1 o2 k2
end
end Sm
/-! S18: enumerate, zip, reversed; extend, reverse, clear. -/
namespace Sm
open PySem PySem.Spec L2
open Enc (enc)
def enumF {α : Type} (i : Nat) : List α → List (Int × α)
  | [] => []
  | x :: xs => ((i : Int), x) :: enumF (i + 1) xs
def enumL {α : Type} (xs : List α) : Option (List (Int × α)) := some (enumF 0 xs)
def zipL {α β : Type} (xs : List α) (ys : List β) : Option (List (α × β)) := some (xs.zip ys)
theorem enumF_at {α : Type} : ∀ (xs : List α) (k i : Nat), (enumF k xs)[i]? = (xs[i]?).map fun x => (((k + i : Nat) : Int), x)
  | [], _, _ => by simp [enumF]
  | x :: xs, k, 0 => by simp [enumF]
  | x :: xs, k, i + 1 => by
    simp only [enumF, List.getElem?_cons_succ]
    rw [enumF_at xs (k + 1) i, show k + 1 + i = k + (i + 1) by omega]
theorem enumF_len {α : Type} : ∀ (xs : List α) (k : Nat), (enumF k xs).length = xs.length
  | [], _ => rfl
  | x :: xs, k => by simp [enumF, enumF_len xs (k + 1)]
section
variable {X : Cx} {αs : List Type} {Γ Γ1 Γ2 Γ' Γt : RTs X.K αs} {α β γ ρ : Type} {e e2 a b c tg iter : Expr} {es elts : List Expr} {pos apos cpos p1 p2 p3 pn tpos : Pos} {n n1 n2 n3 : Str} {kk : Nat}
theorem XI.enum [Enc α] {ma : M αs (List α)} {p : Pos} (hg : Gl X "enumerate") (hm : X.mg "enumerate" = none) (ha : XE X Γ a (RT.dat X.K (List α)) ma) (hs : starEach [a] X.env = [(false, eval a X.env)] := by rfl) :
    XI X Γ (.Tuple elts kk tpos) (.Call (.Name "enumerate" p) [a] [] pos) (RT.dat X.K (Int × α)) (m1 enumL ma) := by
  intro C s σ G H o k xs s' hm' Rw q
  obtain ⟨ys, h1, h2⟩ := m1E hm'
  cases h2
  refine wI_of (pi_enum hg hm (pa_cons pe_w pa_nil hs) hs) ?_
  refine ha C s σ G H o k ys s' h1 _ fun v G1 H1 o1 B k1 g1 kp r t => ?_
  obtain ⟨p, vs, rfl, hp, h⟩ := dq_list r
  refine ⟨p, vs, rfl, SqL.of (k1.gh _ _ hp), q _ G1 H1 o1 k1 g1 kp ⟨fun i y H hy e => ?_, fun H e => ⟨vs, SqL.of (e _ _ hp), by rw [h.len, enumF_len]; exact Nat.le_refl _⟩, fun i y G2 H2 x H' hy e e2 yl => ?_⟩⟩
  · rw [enumF_at] at hy
    obtain ⟨y', hy', rfl⟩ := Option.map_eq_some_iff.mp hy
    obtain ⟨v, h3, _⟩ := h.get hy'
    exact ⟨vs, v, SqL.of (e _ _ hp), h3⟩
  · rw [enumF_at] at hy
    obtain ⟨y', hy', rfl⟩ := Option.map_eq_some_iff.mp hy
    obtain ⟨T, x', rfl, hT, rfl, yl⟩ := yl
    obtain ⟨v, h3, h4⟩ := h.get hy'
    have := yl vs (SqL.of (e2 _ _ (e _ _ hp)))
    rw [h3] at this; cases this
    have al := Al.kn e2 (o := .tup [.int (i : Nat), x']) hT
    refine ⟨_, al, ?_⟩
    show Dq X.K _ _ (.tuple [.int ((0 + i : Nat) : Int), enc y'])
    rw [Nat.zero_add]
    exact .tup (SqT.of upd_same) (.cons (.int _) (.cons (dq_mono (e.trans al.g) h4) .nil))
theorem XI.zip [Enc α] [Enc β] {ma : M αs (List α)} {mb : M αs (List β)} {p : Pos} (hg : Gl X "zip") (hm : X.mg "zip" = none) (ha : XE X Γ a (RT.dat X.K (List α)) ma) (hb : XE X Γ b (RT.dat X.K (List β)) mb)
    (hp : PA X [a, b] (tCons (wE X a) (tCons (wE X b) tNil)) := by exact pa_cons pe_w (pa_cons pe_w pa_nil)) (hs : starEach [a, b] X.env = (false, eval a X.env) :: starEach [b] X.env := by rfl) (hpl : (backTo pos (starEach [b] X.env)).any (·.1) = false := by rfl) :
    XI X Γ (.Tuple elts kk tpos) (.Call (.Name "zip" p) [a, b] [] pos) (RT.dat X.K (α × β)) (m2 zipL ma mb) := by
  intro C s σ G H o k xs s' hm' Rw q
  obtain ⟨ys, s1, zs, h1, h2, h3⟩ := m2E hm'
  cases h3
  refine wI_of (pi_zip hg hm hp hs hpl) ?_
  refine ha C s σ G H o k ys s1 h1 _ fun v G1 H1 o1 B k1 g1 kp r t => ?_
  refine hb C s1 σ G1 H1 o1 k1 zs s' h2 _ fun u G2 H2 o2 B2 k2 g2 kp2 r2 t2 => ?_
  obtain ⟨p, vs, rfl, hp, h⟩ := dq_list (dq_mono g2 r)
  obtain ⟨p', us, rfl, hp', h'⟩ := dq_list r2
  refine ⟨p, p', vs, us, rfl, SqL.of (k2.gh _ _ hp), SqL.of (k2.gh _ _ hp'), q _ G2 H2 o2 k2 (g1.trans g2) (kp.trans kp2) ⟨fun i y H hy e => ?_, fun H e => ⟨vs, us, SqL.of (e _ _ hp), SqL.of (e _ _ hp'), by rw [h.len, h'.len, List.length_zip]; omega⟩, fun i y G3 H3 x H' hy e e2 yl => ?_⟩⟩
  · obtain ⟨hy1, hy2⟩ := List.getElem?_zip_eq_some.mp hy
    obtain ⟨v1, w1, _⟩ := h.get hy1
    obtain ⟨v2, w2, _⟩ := h'.get hy2
    exact ⟨vs, us, v1, v2, SqL.of (e _ _ hp), SqL.of (e _ _ hp'), w1, w2⟩
  · obtain ⟨hy1, hy2⟩ := List.getElem?_zip_eq_some.mp hy
    obtain ⟨T, x1, x2, rfl, hT, rfl, yl1, yl2⟩ := yl
    obtain ⟨v1, w1, w3⟩ := h.get hy1
    obtain ⟨v2, w2, w4⟩ := h'.get hy2
    have z1 := yl1 vs (SqL.of (e2 _ _ (e _ _ hp)))
    have z2 := yl2 us (SqL.of (e2 _ _ (e _ _ hp')))
    rw [w1] at z1; cases z1
    rw [w2] at z2; cases z2
    have al := Al.kn e2 (o := .tup [x1, x2]) hT
    exact ⟨_, al, show Dq X.K _ _ (.tuple [enc y.1, enc y.2]) from .tup (SqT.of upd_same) (.cons (dq_mono (e.trans al.g) w3) (.cons (dq_mono (e.trans al.g) w4) .nil))⟩
theorem XI.rev [Enc α] {ma : M αs (List α)} {p : Pos} (hg : Gl X "reversed") (hm : X.mg "reversed" = none) (ha : XE X Γ a (RT.dat X.K (List α)) ma) (hs : starEach [a] X.env = [(false, eval a X.env)] := by rfl) :
    XI X Γ tg (.Call (.Name "reversed" p) [a] [] pos) (RT.dat X.K α) (m1 revl ma) := by
  intro C s σ G H o k xs s' hm' Rw q
  obtain ⟨ys, h1, h2⟩ := m1E hm'
  cases h2
  refine wI_of (pi_reversed hg hm (pa_cons pe_w pa_nil hs) hs) ?_
  refine ha C s σ G H o k ys s' h1 _ fun v G1 H1 o1 B k1 g1 kp r t => ?_
  obtain ⟨p, vs, rfl, hp, h⟩ := dq_list r
  have hl := h.len
  have at_ : ∀ i y, ys.reverse[i]? = some y → i < ys.length ∧ ys[ys.length - 1 - i]? = some y := fun i y hy => by
    have hi : i < ys.length := by have := (List.getElem?_eq_some_iff.mp hy).1; simpa using this
    exact ⟨hi, by rw [List.getElem?_reverse hi] at hy; exact hy⟩
  refine ⟨p, vs, rfl, SqL.of (k1.gh _ _ hp), q _ G1 H1 o1 k1 g1 kp ⟨fun i y H hy e => ?_, fun H e => by show vs.length ≤ _; rw [List.length_reverse, hl]; exact Nat.le_refl _, fun i y G2 H2 x H' hy e e2 yl => ?_⟩⟩
  · obtain ⟨h2, h3⟩ := at_ i y hy
    obtain ⟨v, h4, _⟩ := h.get h3
    exact ⟨by rw [hl]; exact h2, vs, v, SqL.of (e _ _ hp), by rw [hl]; exact h4⟩
  · obtain ⟨h2, h3⟩ := at_ i y hy
    obtain ⟨rfl, yl⟩ := yl
    obtain ⟨v, h4, h5⟩ := h.get h3
    have := yl vs (SqL.of (e2 _ _ (e _ _ hp)))
    rw [hl, h4] at this; cases this
    exact ⟨G2, .refl e2, dq_mono e h5⟩
/-! ### x.extend(e), x.reverse(), x.clear() -/
def sExt (x : Var αs (List α)) (me : M αs (List α)) : MS αs ρ := fun s => (x.get s).bind fun _ => (me s).bind fun p => (x.get p.2).bind fun xs => if xs.length + p.1.length ≤ 1000000 then some (.nx, x.set (some (xs ++ p.1)) p.2) else none
variable {P : Pk X.K αs ρ}
theorem XS.ext [Enc α] [PureE α] {x : Var αs (List α)} {me : M αs (List α)} (hpe : PE X (.Name n pn) (tVar x.idx)) (hx : Sub (x.rt Γ) (RT.own X.K α)) (he : XE X Γ e (RT.dat X.K (List α)) me)
    (hp : PE X (.Call (.Attribute (.Name n pn) "extend" apos) [e] [] cpos) (tBM X.K "list" rExtend (tVar x.idx) (tCons (wE X e) tNil)) := by exact pe_bm PySem.F.plainAttrs_list PySem.F.slot_list_extend PySem.F.type_list_extend mt_extend (pv _) (pa_cons pe_w pa_nil))
    (hs : swapsWith (.Call (.Attribute (.Name n pn) "extend" apos) [e] [] cpos) none pos.line X.env = pure false := by rfl) : XS X P Γ Γ (.Expr (.Call (.Attribute (.Name n pn) "extend" apos) [e] [] cpos) pos) (sExt x me) := by
  intro C s σ G H o k cc sE hm D fin
  obtain ⟨xs0, e0, e2⟩ := bindE hm
  obtain ⟨⟨v, s1⟩, e1, e3⟩ := bindE e2
  obtain ⟨xs, e5, e6⟩ := bindE e3
  obtain ⟨hl, e8⟩ := ite_some e6.symm.symm
  cases e8
  refine wS_of (ps_expr hp hs) ?_
  obtain ⟨p0, vs0, h0, _, h00, _, _⟩ := k.ownAt hx e0
  refine ⟨_, h0, .inl ⟨rfl, _, SqL.of h00⟩, ?_⟩
  refine he C s σ G H o k v s1 e1 _ fun w G1 H1 o1 B k1 g1 kp1 r1 t1 => ?_
  obtain ⟨p, vs, h1, h2, h3, h4, h9⟩ := k1.ownAt hx e5
  rw [h0] at h1; cases h1
  obtain ⟨pb, ws, rfl, hb, hw⟩ := dq_list r1
  refine ⟨p0, pb, vs, ws, rfl, rfl, h3, k1.gh _ _ hb, by rw [h4.len, hw.len]; exact Nat.le_trans hl (by decide), ?_⟩
  exact fin σ G1 _ o1 (k1.mut x h0 h2 rfl (hx.of h9 ⟨p0, _, rfl, h2, upd_same, All2.app (P := fun v x => Dq X.K G1 v (enc x)) h4 hw⟩))
def sRev (x : Var αs (List α)) : MS αs ρ := fun s => (x.get s).bind fun xs => some (.nx, x.set (some xs.reverse) s)
theorem XS.rev [Enc α] [PureE α] {x : Var αs (List α)} (hpe : PE X (.Name n pn) (tVar x.idx)) (hx : Sub (x.rt Γ) (RT.own X.K α))
    (hp : PE X (.Call (.Attribute (.Name n pn) "reverse" apos) [] [] cpos) (tBM0 X.K "list" rReverse (tVar x.idx)) := by exact pe_bm0 PySem.F.plainAttrs_list PySem.F.slot_list_reverse PySem.F.type_list_reverse mt_reverse (pv _))
    (hs : swapsWith (.Call (.Attribute (.Name n pn) "reverse" apos) [] [] cpos) none pos.line X.env = pure false := by rfl) : XS X P Γ Γ (.Expr (.Call (.Attribute (.Name n pn) "reverse" apos) [] [] cpos) pos) (sRev x) := by
  intro C s σ G H o k cc sE hm D fin
  obtain ⟨xs, e0, e2⟩ := bindE hm
  cases e2
  refine wS_of (ps_expr hp hs) ?_
  obtain ⟨p0, vs, h0, h2, h3, h4, h9⟩ := k.ownAt hx e0
  refine ⟨_, h0, .inl ⟨rfl, _, SqL.of h3⟩, p0, vs, rfl, rfl, h3, ?_⟩
  exact fin σ G _ o (k.mut x h0 h2 rfl (hx.of h9 ⟨p0, _, rfl, h2, upd_same, All2.rev (P := fun v x => Dq X.K G v (enc x)) h4⟩))
def sClr (x : Var αs (List α)) : MS αs ρ := fun s => (x.get s).bind fun _ => some (.nx, x.set (some []) s)
theorem XS.clr [Enc α] [PureE α] {x : Var αs (List α)} (hpe : PE X (.Name n pn) (tVar x.idx)) (hx : Sub (x.rt Γ) (RT.own X.K α))
    (hp : PE X (.Call (.Attribute (.Name n pn) "clear" apos) [] [] cpos) (tBM0 X.K "list" rClear (tVar x.idx)) := by exact pe_bm0 PySem.F.plainAttrs_list PySem.F.slot_list_clear PySem.F.type_list_clear mt_clear (pv _))
    (hs : swapsWith (.Call (.Attribute (.Name n pn) "clear" apos) [] [] cpos) none pos.line X.env = pure false := by rfl) : XS X P Γ Γ (.Expr (.Call (.Attribute (.Name n pn) "clear" apos) [] [] cpos) pos) (sClr x) := by
  intro C s σ G H o k cc sE hm D fin
  obtain ⟨xs, e0, e2⟩ := bindE hm
  cases e2
  refine wS_of (ps_expr hp hs) ?_
  obtain ⟨p0, vs, h0, h2, h3, h4, h9⟩ := k.ownAt hx e0
  refine ⟨_, h0, .inl ⟨rfl, _, SqL.of h3⟩, p0, vs, rfl, rfl, h3, ?_⟩
  exact fin σ G _ o (k.mut x h0 h2 rfl (hx.of h9 ⟨p0, _, rfl, h2, upd_same, trivial⟩))
end
end Sm
/-! S19: plain functions behind the programs over an environment. -/
namespace Sm
open PySem PySem.Spec L2

/-! ### what is known of an environment -/
def Le : {αs : List Type} → Env αs → Env αs → Prop
  | [], _, _ => True
  | _ :: _, q, s => (q.1 = none ∨ q.1 = s.1) ∧ Le q.2 s.2
theorem Le.refl : ∀ {αs : List Type} (s : Env αs), Le s s
  | [], _ => trivial
  | _ :: _, s => ⟨.inr rfl, Le.refl s.2⟩
theorem Le.trans : ∀ {αs : List Type} {q s t : Env αs}, Le q s → Le s t → Le q t
  | [], _, _, _, _, _ => trivial
  | _ :: _, q, s, t, h, k => ⟨by
      rcases h.1 with h1 | h1
      · exact .inl h1
      · rcases k.1 with k1 | k1
        · exact .inl (h1.trans k1)
        · exact .inr (h1.trans k1), Le.trans h.2 k.2⟩
theorem Le.get : ∀ {αs : List Type} {α : Type} {q s : Env αs} (x : Var αs α) {a : α}, Le q s → x.get q = some a → x.get s = some a
  | _, _, _, _, .vz, _, h, e => by
    rcases h.1 with h1 | h1
    · exact absurd (h1.symm.trans e) (by simp)
    · exact h1.symm.trans e
  | _, _, _, _, .vs x, _, h, e => Le.get x h.2 e
theorem Le.set : ∀ {αs : List Type} {α : Type} {q s : Env αs} (x : Var αs α) (a : Option α), Le q s → Le (x.set a q) (x.set a s)
  | _, _, _, _, .vz, _, h => ⟨.inr rfl, h.2⟩
  | _, _, _, _, .vs x, a, h => ⟨h.1, Le.set x a h.2⟩
theorem Le.set' : ∀ {αs : List Type} {α : Type} {q s : Env αs} (x : Var αs α) {a b : Option α}, (a = none ∨ a = b) → Le q s → Le (x.set a q) (x.set b s)
  | _, _, _, _, .vz, _, _, e, h => ⟨e, h.2⟩
  | _, _, _, _, .vs x, _, _, e, h => ⟨h.1, Le.set' x e h.2⟩
theorem Le.get' : ∀ {αs : List Type} {α : Type} {q s : Env αs} (x : Var αs α), Le q s → (x.get q = none ∨ x.get q = x.get s)
  | _, _, _, _, .vz, h => h.1
  | _, _, _, _, .vs x, h => Le.get' x h.2
theorem Le.nones : ∀ {ls : List Type} (s : Env ls), Le (Sm.nones ls) s
  | [], _ => trivial
  | _ :: _, s => ⟨.inl rfl, Le.nones s.2⟩
theorem Le.ext : ∀ {ls ps : List Type} {q : Env ps} {s : Env (ps ++ ls)}, Le q (prj ls ps s) → Le (Sm.ext ls ps q) s
  | _, [], _, s, _ => Le.nones s
  | _, _ :: _, _, _, h => ⟨h.1, Le.ext h.2⟩
theorem Le.prj : ∀ {ls ps : List Type} {q s : Env (ps ++ ls)}, Le q s → Le (Sm.prj ls ps q) (Sm.prj ls ps s)
  | _, [], _, _, _ => trivial
  | _, _ :: _, _, _, h => ⟨h.1, Le.prj h.2⟩
/-- what is known stays known -/
class Mo {αs : List Type} {β : Type} (m : Env αs → Option (β × Env αs)) : Prop where
  mo : ∀ {q s : Env αs} {b : β} {q' : Env αs}, Le q s → m q = some (b, q') → ∃ s', m s = some (b, s') ∧ Le q' s'
class MoF {αs : List Type} {α : Type} (f : α → Env αs → Env αs) : Prop where
  mo : ∀ {q s : Env αs} (y : α), Le q s → Le (f y q) (f y s)
class MoR {αs : List Type} (r : Env αs → Env αs → Env αs) : Prop where
  mo : ∀ {q s q2 s2 : Env αs}, Le q s → Le q2 s2 → Le (r q q2) (r s s2)
section
variable {αs : List Type} {α β γ δ ρ τ ω : Type}
theorem Mo.bd {m : Env αs → Option (β × Env αs)} {g : β → Env αs → Option (γ × Env αs)} (h : Mo m) (k : ∀ b, Mo (g b)) : Mo (fun s => (m s).bind fun p => g p.1 p.2) := ⟨fun l e => by
  obtain ⟨⟨b, q1⟩, e1, e2⟩ := bindE e
  obtain ⟨s1, e3, l1⟩ := h.mo l e1
  obtain ⟨s2, e4, l2⟩ := (k b).mo l1 e2
  exact ⟨s2, by rw [e3]; exact e4, l2⟩⟩
theorem Mo.op {o : Option β} {g : β → Env αs → Option (γ × Env αs)} (k : ∀ b, Mo (g b)) : Mo (fun s => o.bind fun b => g b s) := ⟨fun l e => by
  obtain ⟨b, e1, e2⟩ := bindE e
  obtain ⟨s2, e4, l2⟩ := (k b).mo l e2
  exact ⟨s2, by rw [e1]; exact e4, l2⟩⟩
theorem Mo.rd {x : Var αs α} {g : α → Env αs → Option (γ × Env αs)} (k : ∀ b, Mo (g b)) : Mo (fun s => (x.get s).bind fun b => g b s) := ⟨fun l e => by
  obtain ⟨b, e1, e2⟩ := bindE e
  obtain ⟨s2, e4, l2⟩ := (k b).mo l e2
  exact ⟨s2, by rw [Le.get x l e1]; exact e4, l2⟩⟩
theorem Mo.rt {b : β} : Mo (fun s : Env αs => some (b, s)) := ⟨fun l e => by cases e; exact ⟨_, rfl, l⟩⟩
theorem Mo.st {b : β} {x : Var αs α} {a : Option α} : Mo (fun s : Env αs => some (b, x.set a s)) := ⟨fun l e => by cases e; exact ⟨_, rfl, Le.set x _ l⟩⟩
theorem Mo.no : Mo (fun _ : Env αs => (none : Option (β × Env αs))) := ⟨fun l e => by cases e⟩
theorem Mo.if {c : Prop} [Decidable c] {m n : Env αs → Option (β × Env αs)} (h : Mo m) (k : Mo n) : Mo (fun s => if c then m s else n s) := ⟨fun l e => by
  by_cases hc : c
  · simp only [if_pos hc] at e ⊢; exact h.mo l e
  · simp only [if_neg hc] at e ⊢; exact k.mo l e⟩
instance {b : β} : Mo (mC b : M αs β) := Mo.rt
instance {x : Var αs α} : Mo (mV x) := Mo.rd fun _ => Mo.rt
instance {f : α → Option β} {m : M αs α} [h : Mo m] : Mo (m1 f m) := Mo.bd (g := fun a s => (f a).bind fun b => some (b, s)) h fun _ => Mo.op fun _ => Mo.rt
instance {f : α → β → Option γ} {m : M αs α} {n : M αs β} [h : Mo m] [k : Mo n] : Mo (m2 f m n) := Mo.bd (g := fun a s => (n s).bind fun q => (f a q.1).bind fun c => some (c, q.2)) h fun _ => Mo.bd (g := fun b s => (f _ b).bind fun c => some (c, s)) k fun _ => Mo.op fun _ => Mo.rt
instance {f : α → β → γ → Option δ} {m : M αs α} {n : M αs β} {l : M αs γ} [h : Mo m] [k : Mo n] [i : Mo l] : Mo (m3 f m n l) := Mo.bd (g := fun a s => (n s).bind fun q => (l q.2).bind fun r => (f a q.1 r.1).bind fun c => some (c, r.2)) h fun _ => Mo.bd (g := fun b s => (l s).bind fun r => (f _ b r.1).bind fun c => some (c, r.2)) k fun _ => Mo.bd (g := fun b s => (f _ _ b).bind fun c => some (c, s)) i fun _ => Mo.op fun _ => Mo.rt
instance {c : M αs Bool} {m n : M αs β} [h : Mo c] [k : Mo m] [i : Mo n] : Mo (mIte c m n) := Mo.bd (g := fun b s => if b = true then m s else n s) h fun _ => Mo.if k i
instance {m n : M αs Bool} [h : Mo m] [k : Mo n] : Mo (mAnd m n) := Mo.bd (g := fun b s => if b = true then n s else some (false, s)) h fun _ => Mo.if k Mo.rt
instance {m n : M αs Bool} [h : Mo m] [k : Mo n] : Mo (mOr m n) := Mo.bd (g := fun b s => if b = true then some (true, s) else n s) h fun _ => Mo.if Mo.rt k
instance {f g : Int → Int → Option Bool} {m n l : M αs Int} [h : Mo m] [k : Mo n] [i : Mo l] : Mo (chn f g m n l) :=
  Mo.bd (g := fun a s => (n s).bind fun q => (f a q.1).bind fun c => if c = true then (l q.2).bind fun r => (g q.1 r.1).bind fun d => some (d, r.2) else some (false, q.2)) h fun a =>
    Mo.bd (g := fun b s => (f a b).bind fun c => if c = true then (l s).bind fun r => (g b r.1).bind fun d => some (d, r.2) else some (false, s)) k fun b => Mo.op fun c => Mo.if (Mo.bd (g := fun r s => (g b r).bind fun d => some (d, s)) i fun _ => Mo.op fun _ => Mo.rt) Mo.rt
instance : Mo (aNil : M αs (Env [])) := Mo.rt (b := (() : Unit))
instance {r : List Type} {m : M αs α} {n : M αs (Env r)} [h : Mo m] [k : Mo n] : Mo (aV m n) := Mo.bd (γ := Env (α :: r)) (g := fun a s => (n s).bind fun q => some ((some a, q.1), q.2)) h fun a => Mo.bd (γ := Env (α :: r)) (g := fun q s => some ((some a, q), s)) k fun _ => Mo.rt
instance {r : List Type} {x : Var αs α} {n : M αs (Env r)} [k : Mo n] : Mo (aM x n) := Mo.rd (γ := Env (α :: r)) fun _ => Mo.bd (γ := Env (α :: r)) (g := fun q s => (x.get s).bind fun a => some ((some a, q), s)) k fun _ => Mo.rd fun _ => Mo.rt
theorem Ks.put_le : ∀ {ps : List Type} (κ : Ks αs ps) (as : Env ps) {q s : Env αs}, Le q s → Le (κ.put as q) (κ.put as s)
  | _, .nil, _, _, _, h => h
  | _, .v k, as, _, _, h => Ks.put_le k as.2 h
  | _, .m x k, as, _, _, h => Le.set x as.1 (Ks.put_le k as.2 h)
theorem Mo.put {ps : List Type} {κ : Ks αs ps} {b : β} {as : Env ps} : Mo (fun s : Env αs => some (b, κ.put as s)) := ⟨fun l e => by cases e; exact ⟨_, rfl, κ.put_le as l⟩⟩
instance {ps : List Type} {κ : Ks αs ps} {f : Env ps → Option (ρ × Env ps)} {ma : M αs (Env ps)} [h : Mo ma] : Mo (mCall κ f ma) := Mo.bd (g := fun as s => (f as).bind fun q => some (q.1, κ.put q.2 s)) h fun _ => Mo.op fun _ => Mo.put
instance {f : Env [α] → Option (ρ × Env [α])} {ma : M αs α} [h : Mo ma] : Mo (mCallT f ma) := Mo.bd (g := fun a s => (f ((some a, ()) : Option α × Unit)).bind fun q => some (q.1, s)) h fun _ => Mo.op fun _ => Mo.rt
instance {ps : List Type} {x0 : τ} {f : Env (τ :: ps) → Option (ρ × Env (τ :: ps))} {ma : M αs (Env ps)} [h : Mo ma] : Mo (mMake x0 f ma) := Mo.bd (g := fun as s => (f ((some x0, as) : Option τ × Env ps)).bind fun q => (show Option τ from q.2.1).bind fun t => some (t, s)) h fun _ => Mo.op fun _ => Mo.op fun _ => Mo.rt
instance {x : Var αs (List α)} : Mo (mPop x) := Mo.rd fun xs => Mo.op fun _ => Mo.st
instance {neg : Bool} {f : Env [τ, α] → Option (Bool × Env [τ, α])} {ma : M αs α} {mo : M αs τ} [h : Mo ma] [k : Mo mo] : Mo (mIn neg f ma mo) :=
  Mo.bd (g := fun a s => (mo s).bind fun q => (f ((some q.1, (some a, ())) : Option τ × (Option α × Unit))).bind fun r => some (if neg then !r.1 else r.1, q.2)) h fun a => Mo.bd (g := fun b s => (f ((some b, (some a, ())) : Option τ × (Option α × Unit))).bind fun r => some (if neg then !r.1 else r.1, s)) k fun _ => Mo.op fun _ => Mo.rt
instance {f : Env [τ] → Option (Int × Env [τ])} {mo : M αs τ} [h : Mo mo] : Mo (mLenO f mo) := Mo.bd (g := fun b s => (f ((some b, ()) : Option τ × Unit)).bind fun r => (len63 r.1).bind fun n => some (n, s)) h fun _ => Mo.op fun _ => Mo.op fun _ => Mo.rt
instance {x : Var αs (Option TreeD)} : Mo (mLenP x) := Mo.rd fun _ => Mo.op fun _ => Mo.rt
instance {x : Var αs α} : MoF (fun (y : α) (s : Env αs) => x.set (some y) s) := ⟨fun _ h => Le.set x _ h⟩
instance {x : Var αs α} {y : Var αs β} : MoF (fun (z : α × β) (s : Env αs) => y.set (some z.2) (x.set (some z.1) s)) := ⟨fun _ h => Le.set y _ (Le.set x _ h)⟩
instance {x : Var αs α} {y : Var αs β} {z : Var αs γ} : MoF (fun (w : T3 α β γ) (s : Env αs) => z.set (some w.c) (y.set (some w.b) (x.set (some w.a) s))) := ⟨fun _ h => Le.set z _ (Le.set y _ (Le.set x _ h))⟩
instance {x : Var αs α} : MoR (Own.one x).rs := ⟨fun h k => Le.set' x (Le.get' x h) k⟩
instance {x : Var αs α} {z : Var αs β} {e} : MoR (Own.two x z e).rs := ⟨fun h k => Le.set' z (Le.get' z h) (Le.set' x (Le.get' x h) k)⟩
theorem loopC_mo {f : α → Env αs → Env αs} {rs : Env αs → Env αs → Env αs} {mt : M αs Bool} {me : M αs β} [a : MoF f] [b : MoR rs] [h : Mo mt] [k : Mo me] : ∀ xs : List α, Mo (fun s => loopC f rs mt me xs s)
  | [] => Mo.rt
  | x :: xs => ⟨fun {q s _ _} l e => by
    have ih := loopC_mo (f := f) (rs := rs) (mt := mt) (me := me) xs
    obtain ⟨⟨c, q1⟩, e1, e2⟩ := bindE (show (mt (f x q)).bind _ = _ from e)
    obtain ⟨s1, e3, l1⟩ := h.mo (a.mo x l) e1
    cases c with
    | false =>
      obtain ⟨s2, e4, l2⟩ := ih.mo (b.mo l l1) e2
      exact ⟨s2, by show (mt (f x s)).bind _ = _; rw [e3]; exact e4, l2⟩
    | true =>
      obtain ⟨⟨y, q2⟩, e5, e6⟩ := bindE (show (me q1).bind _ = _ from e2)
      obtain ⟨s2, e7, l2⟩ := k.mo l1 e5
      obtain ⟨⟨ys, q3⟩, e8, e9⟩ := bindE e6
      obtain ⟨s3, e10, l3⟩ := ih.mo (b.mo l l2) e8
      cases e9
      refine ⟨s3, ?_, l3⟩
      show (mt (f x s)).bind _ = _
      rw [e3]
      show (me s1).bind _ = _
      rw [e7]
      show (loopC f rs mt me xs (rs s s2)).bind _ = _
      have e10' : loopC f rs mt me xs (rs s s2) = _ := e10
      rw [e10']; rfl⟩
instance {mi : M αs (List α)} {f : α → Env αs → Env αs} {rs : Env αs → Env αs → Env αs} {mt : M αs Bool} {me : M αs β} [i : Mo mi] [a : MoF f] [b : MoR rs] [h : Mo mt] [k : Mo me] : Mo (mLc mi f rs mt me) :=
  Mo.bd (g := fun (xs : List α) s => if xs.length ≤ 1000000 then loopC f rs mt me xs s else none) i fun xs => Mo.if (loopC_mo xs) Mo.no
/-! statements -/
instance : Mo (sSkip : MS αs ρ) := Mo.rt
instance : Mo (sBk : MS αs ρ) := Mo.rt
instance : Mo (sCt : MS αs ρ) := Mo.rt
instance : Mo (sFail : MS αs ρ) := Mo.no
instance {m n : MS αs ρ} [h : Mo m] [k : Mo n] : Mo (sSeq m n) := Mo.bd (g := fun (c : Ctl ρ) s => match c with | .nx => n s | .bk => some ((Ctl.bk : Ctl ρ), s) | .ct => some ((Ctl.ct : Ctl ρ), s) | .rt r => some (Ctl.rt r, s)) h fun c => by
  cases c with
  | nx => exact k
  | bk => exact Mo.rt
  | ct => exact Mo.rt
  | rt r => exact Mo.rt
instance {x : Var αs α} {m : M αs α} [h : Mo m] : Mo (sAsg x m : MS αs ρ) := Mo.bd (g := fun a s => some ((Ctl.nx : Ctl ρ), x.set (some a) s)) h fun _ => Mo.st
instance {m : M αs ρ} [h : Mo m] : Mo (sRet m) := Mo.bd (g := fun a s => some (Ctl.rt a, s)) h fun _ => Mo.rt
instance {c : M αs Bool} {m n : MS αs ρ} [h : Mo c] [k : Mo m] [i : Mo n] : Mo (sIf c m n) := Mo.bd (g := fun b s => if b = true then m s else n s) h fun _ => Mo.if k i
instance {m : M αs α} [h : Mo m] : Mo (sDrop m : MS αs ρ) := Mo.bd (g := fun _ s => some ((Ctl.nx : Ctl ρ), s)) h fun _ => Mo.rt
instance {x : Var αs (List α)} {mi : M αs Int} {me : M αs α} [h : Mo mi] [k : Mo me] : Mo (sSetI x mi me : MS αs ρ) :=
  Mo.bd (g := fun v s => (x.get s).bind fun _ => (mi s).bind fun q => (x.get q.2).bind fun xs => (setAt xs q.1 v).bind fun ys => some ((Ctl.nx : Ctl ρ), x.set (some ys) q.2)) k fun v =>
    Mo.rd fun _ => Mo.bd (g := fun i s => (x.get s).bind fun xs => (setAt xs i v).bind fun ys => some ((Ctl.nx : Ctl ρ), x.set (some ys) s)) h fun _ => Mo.rd fun _ => Mo.op fun _ => Mo.st
instance {x : Var αs (List α)} {me : M αs α} [k : Mo me] : Mo (sApp x me : MS αs ρ) :=
  Mo.rd fun _ => Mo.bd (g := fun v s => (x.get s).bind fun xs => if xs.length < 1000000 then some ((Ctl.nx : Ctl ρ), x.set (some (xs ++ [v])) s) else none) k fun _ => Mo.rd fun _ => Mo.if Mo.st Mo.no
instance {x : Var αs Int} {f : Int → Int → Option Int} {me : M αs Int} [k : Mo me] : Mo (sAug x f me : MS αs ρ) :=
  Mo.rd fun a => Mo.bd (g := fun b s => (f a b).bind fun c => some ((Ctl.nx : Ctl ρ), x.set (some c) s)) k fun _ => Mo.op fun _ => Mo.st
instance {f : α → Env αs → Env αs} {m : M αs α} [a : MoF f] [h : Mo m] : Mo (sAsgG f m : MS αs ρ) := Mo.bd (g := fun y s => some ((Ctl.nx : Ctl ρ), f y s)) h fun y => ⟨fun l e => by cases e; exact ⟨_, rfl, a.mo y l⟩⟩
instance {x : Var αs α} {y : Var αs β} {m : M αs α} {l : M αs β} [h : Mo m] [k : Mo l] : Mo (sPar x y m l : MS αs ρ) :=
  Mo.bd (g := fun a s => (l s).bind fun q => some ((Ctl.nx : Ctl ρ), y.set (some q.1) (x.set (some a) q.2))) h fun a => Mo.bd (g := fun b s => some ((Ctl.nx : Ctl ρ), y.set (some b) (x.set (some a) s))) k fun _ => ⟨fun l e => by cases e; exact ⟨_, rfl, Le.set y _ (Le.set x _ l)⟩⟩
instance {x : Var αs (List α)} {me : M αs (List α)} [k : Mo me] : Mo (sExt x me : MS αs ρ) :=
  Mo.rd fun _ => Mo.bd (g := fun v s => (x.get s).bind fun xs => if xs.length + v.length ≤ 1000000 then some ((Ctl.nx : Ctl ρ), x.set (some (xs ++ v)) s) else none) k fun _ => Mo.rd fun _ => Mo.if Mo.st Mo.no
instance {x : Var αs (List α)} : Mo (sRev x : MS αs ρ) := Mo.rd fun _ => Mo.st
instance {x : Var αs (List α)} : Mo (sClr x : MS αs ρ) := Mo.rd fun _ => Mo.st
instance {x : Var αs (Option TreeD)} {i j l : Int} : Mo (sT0 x i j l : MS αs ρ) := Mo.rd fun _ => Mo.if Mo.st Mo.no
instance {x : Var αs (Option TreeD)} {y z : Var αs Int} : Mo (sTA x y z : MS αs ρ) := Mo.rd fun _ => Mo.op fun _ => Mo.rd fun _ => Mo.rd fun _ => Mo.op fun _ => Mo.if Mo.st Mo.no
theorem loopF_mo {f : α → Env αs → Env αs} {m : MS αs ρ} [a : MoF f] [h : Mo m] : ∀ xs : List α, Mo (fun s => loopF f m xs s)
  | [] => Mo.rt
  | x :: xs => ⟨fun {q s _ _} l e => by
    have ih := loopF_mo (f := f) (m := m) xs
    obtain ⟨⟨c, q1⟩, e1, e2⟩ := bindE (show (m (f x q)).bind _ = _ from e)
    obtain ⟨s1, e3, l1⟩ := h.mo (a.mo x l) e1
    have e0 : loopF f m (x :: xs) s = (m (f x s)).bind fun p => match p.1 with
      | .nx => loopF f m xs p.2
      | .ct => loopF f m xs p.2
      | .bk => some ((Ctl.nx : Ctl ρ), p.2)
      | .rt r => some (.rt r, p.2) := rfl
    cases c with
    | nx =>
      obtain ⟨s2, e4, l2⟩ := ih.mo l1 e2
      exact ⟨s2, by show loopF f m (x :: xs) s = _; rw [e0, e3]; exact e4, l2⟩
    | ct =>
      obtain ⟨s2, e4, l2⟩ := ih.mo l1 e2
      exact ⟨s2, by show loopF f m (x :: xs) s = _; rw [e0, e3]; exact e4, l2⟩
    | bk => cases e2; exact ⟨s1, by show loopF f m (x :: xs) s = _; rw [e0, e3]; rfl, l1⟩
    | rt r => cases e2; exact ⟨s1, by show loopF f m (x :: xs) s = _; rw [e0, e3]; rfl, l1⟩⟩
instance {mi : M αs (List α)} {f : α → Env αs → Env αs} {m : MS αs ρ} [i : Mo mi] [a : MoF f] [h : Mo m] : Mo (sFor mi f m) := Mo.bd (g := fun xs s => loopF f m xs s) i fun xs => loopF_mo xs
theorem loopW_mo {mc : M αs Bool} {m : MS αs ρ} [i : Mo mc] [h : Mo m] : ∀ n : Nat, Mo (fun s => loopW mc m n s)
  | 0 => Mo.no
  | n + 1 => Mo.bd (g := fun b s => if b = true then (m s).bind fun q => match q.1 with
    | .nx => loopW mc m n q.2
    | .ct => loopW mc m n q.2
    | .bk => some ((Ctl.nx : Ctl ρ), q.2)
    | .rt r => some (.rt r, q.2) else some ((Ctl.nx : Ctl ρ), s)) i fun b => Mo.if (Mo.bd (g := fun c s => match c with
    | .nx => loopW mc m n s
    | .ct => loopW mc m n s
    | .bk => some ((Ctl.nx : Ctl ρ), s)
    | .rt r => some (.rt r, s)) h fun c => by
      cases c with
      | nx => exact loopW_mo n
      | ct => exact loopW_mo n
      | bk => exact Mo.rt
      | rt r => exact Mo.rt) Mo.rt
instance {mc : M αs Bool} {m : MS αs ρ} [i : Mo mc] [h : Mo m] : Mo (sWhile mc m) := ⟨fun l e => by
  obtain ⟨n, e1⟩ := sWhile_to e
  obtain ⟨s2, e2, l2⟩ := (loopW_mo (mc := mc) (m := m) n).mo l e1
  exact ⟨s2, sWhile_of e2, l2⟩⟩

/-! ### loops over a state of one's own -/
inductive Lp (τ ω : Type) where
  | nx (t : τ) | bk (t : τ) | rt (r : ω)
def forL (B : τ → α → Option (Lp τ ω)) : List α → τ → Option (Lp τ ω)
  | [], t => some (.nx t)
  | x :: xs, t => (B t x).bind fun p => match p with
    | .nx t => forL B xs t
    | .bk t => some (.nx t)
    | .rt r => some (.rt r)
def forM (B : τ → α → Option τ) : List α → τ → Option τ
  | [], t => some t
  | x :: xs, t => (B t x).bind fun t => forM B xs t
def whN (c : τ → Option Bool) (B : τ → Option (Lp τ ω)) : Nat → τ → Option (Lp τ ω)
  | 0, _ => none
  | n + 1, t => (c t).bind fun b => if b = true then (B t).bind fun p => match p with
    | .nx t => whN c B n t
    | .bk t => some (.nx t)
    | .rt r => some (.rt r) else some (.nx t)
open Classical in
noncomputable def whL (c : τ → Option Bool) (B : τ → Option (Lp τ ω)) (t : τ) : Option (Lp τ ω) := if h : ∃ n r, whN c B n t = some r then some (Classical.choose (Classical.choose_spec h)) else none
def lcS (p : τ → α → Option Bool) (g : τ → α → Option (β × τ)) : List α → τ → Option (List β × τ)
  | [], t => some ([], t)
  | x :: xs, t => (p t x).bind fun b => if b = true then (g t x).bind fun q => (lcS p g xs q.2).bind fun r => some (q.1 :: r.1, r.2) else lcS p g xs t
def lcO (p : α → Option Bool) (g : α → Option β) : List α → Option (List β)
  | [] => some []
  | x :: xs => (p x).bind fun b => if b = true then (g x).bind fun y => (lcO p g xs).bind fun ys => some (y :: ys) else lcO p g xs
def cap {α β : Type} (xs : List α) (o : Option β) : Option β := if xs.length ≤ 1000000 then o else none
def appO {α : Type} (xs : List α) (v : α) : Option (List α) := if xs.length < 1000000 then some (xs ++ [v]) else none
def extO {α : Type} (xs ys : List α) : Option (List α) := if xs.length + ys.length ≤ 1000000 then some (xs ++ ys) else none
def popO {α : Type} (xs : List α) : Option α := xs[xs.length - 1]?

def memB {α : Type} [DecidableEq α] (x : α) (xs : List α) : Bool := decide (x ∈ xs)
theorem memB_eq {α : Type} [DecidableEq α] (x : α) (xs : List α) : memB x xs = decide (x ∈ xs) := rfl
/-! ### expressions -/
def VX (m : M αs β) (s : Env αs) (a : β) : Prop := m s = some (a, s)
theorem VX.c {b : β} {s : Env αs} : VX (mC b) s b := rfl
theorem VX.v {x : Var αs α} {s : Env αs} {a : α} (h : x.get s = some a) : VX (mV x) s a := by unfold VX mV; rw [h]; rfl
theorem VX.t1 {f : α → Option β} {m : M αs α} {s : Env αs} {a : α} {b : β} (h : VX m s a) (e : f a = some b) : VX (m1 f m) s b := by
  unfold VX at *; unfold m1; rw [h]; show (f a).bind _ = _; rw [e]; rfl
theorem VX.t2 {f : α → β → Option γ} {m : M αs α} {n : M αs β} {s : Env αs} {a : α} {b : β} {c : γ} (h : VX m s a) (k : VX n s b) (e : f a b = some c) : VX (m2 f m n) s c := by
  unfold VX at *; unfold m2; rw [h]; show (n s).bind _ = _; rw [k]; show (f a b).bind _ = _; rw [e]; rfl
theorem VX.t3 {f : α → β → γ → Option δ} {m : M αs α} {n : M αs β} {l : M αs γ} {s : Env αs} {a : α} {b : β} {c : γ} {d : δ} (h : VX m s a) (k : VX n s b) (i : VX l s c) (e : f a b c = some d) : VX (m3 f m n l) s d := by
  unfold VX at *; unfold m3; rw [h]; show (n s).bind _ = _; rw [k]; show (l s).bind _ = _; rw [i]; show (f a b c).bind _ = _; rw [e]; rfl
theorem VX.and {m n : M αs Bool} {s : Env αs} {a b : Bool} (h : VX m s a) (k : VX n s b) : VX (mAnd m n) s (a && b) := by
  unfold VX at *; unfold mAnd; rw [h]; show (if a = true then n s else _) = _; cases a
  · rfl
  · exact k
theorem VX.or {m n : M αs Bool} {s : Env αs} {a b : Bool} (h : VX m s a) (k : VX n s b) : VX (mOr m n) s (a || b) := by
  unfold VX at *; unfold mOr; rw [h]; show (if a = true then _ else n s) = _; cases a
  · exact k
  · rfl
theorem VX.ite {c : M αs Bool} {m n : M αs β} {s : Env αs} {b : Bool} {x y : β} (h : VX c s b) (k : VX m s x) (i : VX n s y) : VX (mIte c m n) s (if b = true then x else y) := by
  unfold VX at *; unfold mIte; rw [h]; show (if b = true then m s else n s) = _; cases b
  · exact i
  · exact k
theorem VX.chn {f g : Int → Int → Option Bool} {m n l : M αs Int} {s : Env αs} {a b c : Int} {u w : Bool} (h : VX m s a) (k : VX n s b) (i : VX l s c) (e : f a b = some u) (e2 : g b c = some w) : VX (chn f g m n l) s (u && w) := by
  unfold VX at *; unfold Sm.chn; rw [h]; show (n s).bind _ = _; rw [k]; show (f a b).bind _ = _; rw [e]; cases u
  · rfl
  · show (l s).bind _ = _; rw [i]; show (g b c).bind _ = _; rw [e2]; rfl
theorem VX.lst {m : M αs (List α)} {s : Env αs} {xs : List α} (h : VX m s xs) (e : xs.length ≤ 1000000) : VX (m1 lstO m) s xs := .t1 h (lstO_ok e)
theorem VX.lstN (n : Nat) {m : M αs (List α)} {s : Env αs} {xs : List α} (h : VX m s xs) (e : xs.length = n) (d : n ≤ 1000000) : VX (m1 lstO m) s xs := .lst h (e ▸ d)
theorem VX.lenP {x : Var αs (Option TreeD)} {s : Env αs} {t : TreeD} (h : x.get s = some (some t)) : VX (mLenP x) s (t.ps.length : Int) := by
  unfold VX mLenP; rw [h]; rfl
/-- the program m, run from s, and the rest, are what o tells -/
def SX (m : Env αs → Option (β × Env αs)) (s : Env αs) (o : Option ω) (Φ : β → Env αs → Option ω → Prop) : Prop := ∀ w, o = some w → ∃ b s' o', m s = some (b, s') ∧ Φ b s' o' ∧ o' = some w
/-- a step that may fail -/
abbrev Bd (u : Option β) (s : Env αs) (o : Option ω) (Φ : β → Env αs → Option ω → Prop) : Prop := ∃ k, o = u.bind k ∧ ∀ b, Φ b s (k b)
theorem SX.val {m : M αs β} {s : Env αs} {o : Option ω} {Φ : β → Env αs → Option ω → Prop} {a : β} (h : VX m s a) (k : Φ a s o) : SX m s o Φ := fun _ e => ⟨a, s, o, h, k, e⟩
theorem SX.nm {m : M αs β} {s : Env αs} {o : Option ω} {Φ : β → Env αs → Option ω → Prop} {a : β} (h : VX m s a) (k : ∃ k, o = (some a).bind k ∧ ∀ x, Φ x s (k x)) : SX m s o Φ := fun _ e => by
  obtain ⟨k, rfl, h1⟩ := k
  exact ⟨a, s, k a, h, h1 a, e⟩
theorem SX.mono {m : M αs β} {s : Env αs} {o : Option ω} {Φ Φ' : β → Env αs → Option ω → Prop} (h : SX m s o Φ) (k : ∀ b s' o', Φ b s' o' → Φ' b s' o') : SX m s o Φ' := fun w e => by
  obtain ⟨b, s', o', h1, h2, h3⟩ := h w e
  exact ⟨b, s', o', h1, k _ _ _ h2, h3⟩
theorem SX.bd {m : M αs β} {n : β → Env αs → Option (γ × Env αs)} {s : Env αs} {o : Option ω} {Φ : γ → Env αs → Option ω → Prop} (h : SX m s o fun b s1 o1 => SX (n b) s1 o1 Φ) : SX (fun s => (m s).bind fun p => n p.1 p.2) s o Φ := fun w e => by
  obtain ⟨b, s1, o1, h1, h2, h3⟩ := h w e
  obtain ⟨c, s2, o2, h4, h5, h6⟩ := h2 w h3
  exact ⟨c, s2, o2, by show (m s).bind _ = _; rw [h1]; exact h4, h5, h6⟩
theorem SX.op {u : Option β} {n : β → Env αs → Option (γ × Env αs)} {s : Env αs} {o : Option ω} {Φ : γ → Env αs → Option ω → Prop} (h : Bd u s o fun b s1 o1 => SX (n b) s1 o1 Φ) : SX (fun s => u.bind fun b => n b s) s o Φ := fun w e => by
  obtain ⟨k, rfl, h⟩ := h
  obtain ⟨b, e1, e2⟩ := bindE e
  obtain ⟨c, s2, o2, h4, h5, h6⟩ := h b w e2
  exact ⟨c, s2, o2, by rw [e1]; exact h4, h5, h6⟩
theorem SX.rt {b : β} {f : Env αs → Env αs} {s : Env αs} {o : Option ω} {Φ : β → Env αs → Option ω → Prop} (h : Φ b (f s) o) : SX (fun s => some (b, f s)) s o Φ := fun w e => ⟨b, f s, o, rfl, h, e⟩
theorem SX.if {c : Prop} [Decidable c] {m n : Env αs → Option (β × Env αs)} {s : Env αs} {o : Option ω} {Φ : β → Env αs → Option ω → Prop} (h : c → SX m s o Φ) (k : ¬ c → SX n s o Φ) : SX (fun s => if c then m s else n s) s o Φ := fun w e => by
  by_cases hc : c
  · simp only [if_pos hc]; exact h hc w e
  · simp only [if_neg hc]; exact k hc w e
variable {s : Env αs} {o : Option ω}
section
variable {Φ : β → Env αs → Option ω → Prop}
theorem SX.p1 {f : α → Option β} {m : M αs α} (h : SX m s o fun a s1 o1 => Bd (f a) s1 o1 Φ) : SX (m1 f m) s o Φ :=
  SX.bd (n := fun a s => (f a).bind fun b => some (b, s)) (h.mono fun a s1 o1 h1 => SX.op (by
    obtain ⟨k, e, h1⟩ := h1
    exact ⟨k, e, fun b => SX.rt (f := id) (h1 b)⟩))
theorem SX.t1 {f : α → Option β} {m : M αs α} (h : SX m s o fun a s1 o1 => ∃ b, f a = some b ∧ Φ b s1 o1) : SX (m1 f m) s o Φ :=
  SX.bd (n := fun a s => (f a).bind fun b => some (b, s)) (h.mono fun a s1 o1 ⟨b, e, h1⟩ w ew => ⟨b, s1, o1, by rw [e]; rfl, h1, ew⟩)
end
section
variable {Φ : γ → Env αs → Option ω → Prop}
theorem SX.p2 {f : α → β → Option γ} {m : M αs α} {n : M αs β} (h : SX m s o fun a s1 o1 => SX n s1 o1 fun b s2 o2 => Bd (f a b) s2 o2 Φ) : SX (m2 f m n) s o Φ :=
  SX.bd (n := fun a s => (n s).bind fun q => (f a q.1).bind fun c => some (c, q.2)) (h.mono fun a s1 o1 h1 => SX.bd (n := fun b s => (f a b).bind fun c => some (c, s)) (h1.mono fun b s2 o2 h2 => SX.op (by
    obtain ⟨k, e, h2⟩ := h2
    exact ⟨k, e, fun b => SX.rt (f := id) (h2 b)⟩)))
theorem SX.t2 {f : α → β → Option γ} {m : M αs α} {n : M αs β} (h : SX m s o fun a s1 o1 => SX n s1 o1 fun b s2 o2 => ∃ c, f a b = some c ∧ Φ c s2 o2) : SX (m2 f m n) s o Φ :=
  SX.bd (n := fun a s => (n s).bind fun q => (f a q.1).bind fun c => some (c, q.2)) (h.mono fun a s1 o1 h1 => SX.bd (n := fun b s => (f a b).bind fun c => some (c, s)) (h1.mono fun b s2 o2 ⟨c, e, h2⟩ w ew => ⟨c, s2, o2, by rw [e]; rfl, h2, ew⟩))
end
theorem SX.p3 {f : α → β → γ → Option δ} {Φ : δ → Env αs → Option ω → Prop} {m : M αs α} {n : M αs β} {l : M αs γ} (h : SX m s o fun a s1 o1 => SX n s1 o1 fun b s2 o2 => SX l s2 o2 fun c s3 o3 => Bd (f a b c) s3 o3 Φ) : SX (m3 f m n l) s o Φ :=
  SX.bd (n := fun a s => (n s).bind fun q => (l q.2).bind fun r => (f a q.1 r.1).bind fun c => some (c, r.2)) (h.mono fun a s1 o1 h1 => SX.bd (n := fun b s => (l s).bind fun r => (f a b r.1).bind fun c => some (c, r.2)) (h1.mono fun b s2 o2 h2 => SX.bd (n := fun c s => (f a b c).bind fun c => some (c, s)) (h2.mono fun c s3 o3 h3 => SX.op (by
    obtain ⟨k, e, h3⟩ := h3
    exact ⟨k, e, fun b => SX.rt (f := id) (h3 b)⟩))))
theorem SX.t3 {f : α → β → γ → Option δ} {Φ : δ → Env αs → Option ω → Prop} {m : M αs α} {n : M αs β} {l : M αs γ} (h : SX m s o fun a s1 o1 => SX n s1 o1 fun b s2 o2 => SX l s2 o2 fun c s3 o3 => ∃ d, f a b c = some d ∧ Φ d s3 o3) : SX (m3 f m n l) s o Φ :=
  SX.bd (n := fun a s => (n s).bind fun q => (l q.2).bind fun r => (f a q.1 r.1).bind fun c => some (c, r.2)) (h.mono fun a s1 o1 h1 => SX.bd (n := fun b s => (l s).bind fun r => (f a b r.1).bind fun c => some (c, r.2)) (h1.mono fun b s2 o2 h2 => SX.bd (n := fun c s => (f a b c).bind fun c => some (c, s)) (h2.mono fun c s3 o3 ⟨d, e, h3⟩ w ew => ⟨d, s3, o3, by rw [e]; rfl, h3, ew⟩)))
theorem SX.lst {m : M αs (List α)} {Φ : List α → Env αs → Option ω → Prop} (h : SX m s o fun xs s1 o1 => xs.length ≤ 1000000 ∧ Φ xs s1 o1) : SX (m1 lstO m) s o Φ := SX.t1 (h.mono fun xs _ _ ⟨e, k⟩ => ⟨xs, lstO_ok e, k⟩)
theorem SX.lstN (n : Nat) {m : M αs (List α)} {Φ : List α → Env αs → Option ω → Prop} (d : n ≤ 1000000) (h : SX m s o fun xs s1 o1 => xs.length = n ∧ Φ xs s1 o1) : SX (m1 lstO m) s o Φ := SX.lst (h.mono fun xs _ _ ⟨e, k⟩ => ⟨e ▸ d, k⟩)
/-- a value found without effects, joined -/
abbrev VO (m : M αs β) (s : Env αs) (o : Option β) : Prop := SX m s o fun b s' o' => s' = s ∧ o' = some b
theorem VO.run {m : M αs β} {s : Env αs} {o : Option β} {b : β} (h : VO m s o) (e : o = some b) : m s = some (b, s) := by
  obtain ⟨c, s', o', h1, ⟨rfl, rfl⟩, h3⟩ := h b e
  cases h3; exact h1
theorem SX.ofVO {m : M αs β} {Φ : β → Env αs → Option ω → Prop} {u : Option β} (h : VO m s u) (k : Bd u s o Φ) : SX m s o Φ := fun w e => by
  obtain ⟨k, rfl, h1⟩ := k
  obtain ⟨b, e1, e2⟩ := bindE e
  exact ⟨b, s, k b, h.run e1, h1 b, e2⟩
theorem SX.and {m n : M αs Bool} {Φ : Bool → Env αs → Option ω → Prop} (h : SX m s o fun a s1 o1 => ∃ u k, o1 = (if a = true then u else some false).bind k ∧ VO n s1 u ∧ ∀ b, Φ b s1 (k b)) : SX (mAnd m n) s o Φ :=
  SX.bd (n := fun a s => if a = true then n s else some (false, s)) (h.mono fun a s1 o1 ⟨u, k, eo, v, h1⟩ w ew => by
    subst eo
    obtain ⟨b, e1, e2⟩ := bindE ew
    refine ⟨b, s1, k b, ?_, h1 b, e2⟩
    cases a with
    | true => exact v.run e1
    | false => cases e1; rfl)
theorem SX.or {m n : M αs Bool} {Φ : Bool → Env αs → Option ω → Prop} (h : SX m s o fun a s1 o1 => ∃ u k, o1 = (if a = true then some true else u).bind k ∧ VO n s1 u ∧ ∀ b, Φ b s1 (k b)) : SX (mOr m n) s o Φ :=
  SX.bd (n := fun a s => if a = true then some (true, s) else n s) (h.mono fun a s1 o1 ⟨u, k, eo, v, h1⟩ w ew => by
    subst eo
    obtain ⟨b, e1, e2⟩ := bindE ew
    refine ⟨b, s1, k b, ?_, h1 b, e2⟩
    cases a with
    | true => cases e1; rfl
    | false => exact v.run e1)
theorem SX.andT {m n : M αs Bool} {Φ : Bool → Env αs → Option ω → Prop} (h : SX m s o fun a s1 o1 => a = true ∧ SX n s1 o1 Φ) : SX (mAnd m n) s o Φ :=
  SX.bd (n := fun a s => if a = true then n s else some (false, s)) (h.mono fun a s1 o1 ⟨e, k⟩ => by subst e; exact k)
theorem SX.orF {m n : M αs Bool} {Φ : Bool → Env αs → Option ω → Prop} (h : SX m s o fun a s1 o1 => a = false ∧ SX n s1 o1 Φ) : SX (mOr m n) s o Φ :=
  SX.bd (n := fun a s => if a = true then some (true, s) else n s) (h.mono fun a s1 o1 ⟨e, k⟩ => by subst e; exact k)
/-- .. where the second part acts: both ways -/
theorem SX.andE {m n : M αs Bool} {Φ : Bool → Env αs → Option ω → Prop} (h : SX m s o fun a s1 o1 => ∃ u w, o1 = (if a = true then u else w) ∧ SX n s1 u Φ ∧ Φ false s1 w) : SX (mAnd m n) s o Φ :=
  SX.bd (n := fun a s => if a = true then n s else some (false, s)) (h.mono fun a s1 o1 ⟨u, w, e, h1, h2⟩ => by
    cases a with
    | true => cases e; exact h1
    | false => cases e; exact SX.rt (f := id) h2)
theorem SX.orE {m n : M αs Bool} {Φ : Bool → Env αs → Option ω → Prop} (h : SX m s o fun a s1 o1 => ∃ u w, o1 = (if a = true then u else w) ∧ Φ true s1 u ∧ SX n s1 w Φ) : SX (mOr m n) s o Φ :=
  SX.bd (n := fun a s => if a = true then some (true, s) else n s) (h.mono fun a s1 o1 ⟨u, w, e, h1, h2⟩ => by
    cases a with
    | true => cases e; exact SX.rt (f := id) h1
    | false => cases e; exact h2)
theorem SX.ite {c : M αs Bool} {m n : M αs β} {Φ : β → Env αs → Option ω → Prop} (h : SX c s o fun a s1 o1 => ∃ u w k, o1 = (if a = true then u else w).bind k ∧ VO m s1 u ∧ VO n s1 w ∧ ∀ b, Φ b s1 (k b)) : SX (mIte c m n) s o Φ :=
  SX.bd (n := fun a s => if a = true then m s else n s) (h.mono fun a s1 o1 ⟨u, w, k, eo, v, v2, h1⟩ z ew => by
    subst eo
    obtain ⟨b, e1, e2⟩ := bindE ew
    refine ⟨b, s1, k b, ?_, h1 b, e2⟩
    cases a with
    | true => exact v.run e1
    | false => exact v2.run e1)
theorem SX.iteE {c : M αs Bool} {m n : M αs β} {Φ : β → Env αs → Option ω → Prop} (h : SX c s o fun a s1 o1 => ∃ u w, o1 = (if a = true then u else w) ∧ SX m s1 u Φ ∧ SX n s1 w Φ) : SX (mIte c m n) s o Φ :=
  SX.bd (n := fun a s => if a = true then m s else n s) (h.mono fun a s1 o1 ⟨u, w, e, h1, h2⟩ => by
    cases a with
    | true => cases e; exact h1
    | false => cases e; exact h2)
theorem SX.chn {f g : Int → Int → Option Bool} {m n l : M αs Int} {Φ : Bool → Env αs → Option ω → Prop} (h : SX m s o fun a s1 o1 => SX n s1 o1 fun b s2 o2 => ∃ c, f a b = some c ∧ ∃ u k, o2 = (if c = true then u else some false).bind k ∧ SX l s2 u (fun d s' o' => s' = s2 ∧ ∃ z, g b d = some z ∧ o' = some z) ∧ ∀ z, Φ z s2 (k z)) : SX (Sm.chn f g m n l) s o Φ :=
  SX.bd (n := fun a s => (n s).bind fun q => (f a q.1).bind fun c => if c = true then (l q.2).bind fun r => (g q.1 r.1).bind fun d => some (d, r.2) else some (false, q.2)) (h.mono fun a s1 o1 h1 =>
    SX.bd (n := fun b s => (f a b).bind fun c => if c = true then (l s).bind fun r => (g b r.1).bind fun d => some (d, r.2) else some (false, s)) (h1.mono fun b s2 o2 ⟨c, e, u, k, eo, v, h1⟩ w ew => by
      subst eo
      obtain ⟨x, e1, e2⟩ := bindE ew
      refine ⟨x, s2, k x, ?_, h1 x, e2⟩
      rw [e]
      cases c with
      | false => cases e1; rfl
      | true =>
        obtain ⟨d, s', o', h3, ⟨h4, z, h5, h6⟩, h7⟩ := v x e1
        subst h4
        show (l s').bind _ = _
        rw [h3]
        show (g b d).bind _ = _
        rw [h5]
        have : z = x := Option.some.inj (h6.symm.trans h7)
        rw [this]; rfl))
/-! calls -/
theorem SX.aNil {Φ : Env [] → Env αs → Option ω → Prop} (h : Φ () s o) : SX (aNil : M αs (Env [])) s o Φ := fun w e => ⟨(), s, o, rfl, h, e⟩
theorem SX.aV {r : List Type} {m : M αs α} {n : M αs (Env r)} {Φ : Env (α :: r) → Env αs → Option ω → Prop} (h : SX m s o fun a s1 o1 => SX n s1 o1 fun as s2 o2 => Φ ((some a, as) : Option α × Env r) s2 o2) : SX (aV m n) s o Φ :=
  SX.bd (γ := Env (α :: r)) (n := fun a s => (n s).bind fun q => some ((some a, q.1), q.2)) (h.mono fun a s1 o1 h1 => SX.bd (γ := Env (α :: r)) (n := fun q s => some ((some a, q), s)) (h1.mono fun as s2 o2 h2 => SX.rt (f := id) h2))
theorem SX.aM {r : List Type} {x : Var αs α} {n : M αs (Env r)} {Φ : Env (α :: r) → Env αs → Option ω → Prop} {a0 : α} (h0 : x.get s = some a0) (h : SX n s o fun as s2 o2 => ∃ a, x.get s2 = some a ∧ Φ ((some a, as) : Option α × Env r) s2 o2) : SX (aM x n) s o Φ := fun w e => by
  obtain ⟨as, s2, o2, h1, ⟨a, h2, h3⟩, h4⟩ := h w e
  refine ⟨((some a, as) : Option α × Env r), s2, o2, ?_, h3, h4⟩
  show ((x.get s).bind fun _ => (n s).bind fun q => (x.get q.2).bind fun a => some ((some a, q.1), q.2)) = _
  rw [h0]
  show ((n s).bind fun q => (x.get q.2).bind fun a => some ((some a, q.1), q.2)) = _
  rw [h1]
  show ((x.get s2).bind fun a => some ((some a, as), s2)) = _
  rw [h2]; rfl
/-- what a def's function tells -/
def Sim {ps : List Type} (o : Option ω) (f : Env ps → Option (ρ × Env ps)) (as : Env ps) (val : ω → ρ) (emb : ω → Env ps) : Prop := ∀ w, o = some w → ∃ s', f as = some (val w, s') ∧ Le (emb w) s'
def Full : {ps : List Type} → Ks αs ps → Env ps → Prop
  | _, .nil, _ => True
  | _, .v k, q => Full k q.2
  | _, .m _ k, q => q.1 ≠ none ∧ Full k q.2
theorem Full.nil {q : Env []} : Full (αs := αs) .nil q := trivial
theorem Full.v {r : List Type} {k : Ks αs r} {q : Env (α :: r)} (h : Full k q.2) : Full (.v k) q := h
theorem Full.m {r : List Type} {x : Var αs α} {k : Ks αs r} {q : Env (α :: r)} {a : α} (e : q.1 = some a) (h : Full k q.2) : Full (.m x k) q := ⟨by rw [e]; exact Option.some_ne_none _, h⟩
theorem Ks.put_eq : ∀ {ps : List Type} (κ : Ks αs ps) {q s : Env ps} (e : Env αs), Full κ q → Le q s → κ.put s e = κ.put q e
  | _, .nil, _, _, _, _, _ => rfl
  | _, .v k, _, _, e, f, l => Ks.put_eq k e f l.2
  | _, .m x k, q, s, e, f, l => by
    have h : q.1 = s.1 := by
      rcases l.1 with h | h
      · exact absurd h f.1
      · exact h
    show x.set s.1 (k.put s.2 e) = x.set q.1 (k.put q.2 e)
    rw [h, Ks.put_eq k e f.2 l.2]
theorem SX.call {ω' : Type} {ps : List Type} {κ : Ks αs ps} {f : Env ps → Option (ρ × Env ps)} {ma : M αs (Env ps)} {Φ : ρ → Env αs → Option ω → Prop}
    (h : SX ma s o fun as s1 o1 => ∃ (u : Option ω') (k : ω' → Option ω) (val : ω' → ρ) (emb : ω' → Env ps), o1 = u.bind k ∧ Sim u f as val emb ∧ (∀ w, Full κ (emb w)) ∧ ∀ w, Φ (val w) (κ.put (emb w) s1) (k w)) : SX (mCall κ f ma) s o Φ :=
  SX.bd (n := fun as s => (f as).bind fun q => some (q.1, κ.put q.2 s)) (h.mono fun as s1 o1 ⟨u, k, val, emb, e, sim, full, h1⟩ w ew => by
    subst e
    obtain ⟨v, e1, e2⟩ := bindE ew
    obtain ⟨s', e3, l⟩ := sim v e1
    refine ⟨val v, κ.put (emb v) s1, k v, ?_, h1 v, e2⟩
    rw [e3]
    show some (val v, κ.put s' s1) = _
    rw [κ.put_eq s1 (full v) l])
theorem SX.callT {ω' : Type} {f : Env [α] → Option (ρ × Env [α])} {ma : M αs α} {Φ : ρ → Env αs → Option ω → Prop}
    (h : SX ma s o fun a s1 o1 => ∃ (u : Option ω') (k : ω' → Option ω) (val : ω' → ρ) (emb : ω' → Env [α]), o1 = u.bind k ∧ Sim u f ((some a, ()) : Option α × Unit) val emb ∧ ∀ w, Φ (val w) s1 (k w)) : SX (mCallT f ma) s o Φ :=
  SX.bd (n := fun a s => (f ((some a, ()) : Option α × Unit)).bind fun q => some (q.1, s)) (h.mono fun as s1 o1 ⟨u, k, val, emb, e, sim, h1⟩ w ew => by
    subst e
    obtain ⟨v, e1, e2⟩ := bindE ew
    obtain ⟨s', e3, l⟩ := sim v e1
    exact ⟨val v, s1, k v, by rw [e3]; rfl, h1 v, e2⟩)
theorem SX.make {ω' : Type} {ps : List Type} {x0 : τ} {f : Env (τ :: ps) → Option (ρ × Env (τ :: ps))} {ma : M αs (Env ps)} {Φ : τ → Env αs → Option ω → Prop}
    (h : SX ma s o fun as s1 o1 => ∃ (u : Option ω') (k : ω' → Option ω) (val : ω' → ρ) (emb : ω' → Env (τ :: ps)) (t : ω' → τ), o1 = u.bind k ∧ Sim u f ((some x0, as) : Option τ × Env ps) val emb ∧ (∀ w, (show Option τ from (emb w).1) = some (t w)) ∧ ∀ w, Φ (t w) s1 (k w)) : SX (mMake x0 f ma) s o Φ :=
  SX.bd (n := fun as s => (f ((some x0, as) : Option τ × Env ps)).bind fun q => (show Option τ from q.2.1).bind fun t => some (t, s)) (h.mono fun as s1 o1 ⟨u, k, val, emb, t, e, sim, he, h1⟩ w ew => by
    subst e
    obtain ⟨v, e1, e2⟩ := bindE ew
    obtain ⟨s', e3, l⟩ := sim v e1
    refine ⟨t v, s1, k v, ?_, h1 v, e2⟩
    rw [e3]
    have hv := he v
    have : (show Option τ from s'.1) = some (t v) := by
      rcases l.1 with h | h
      · exact absurd (hv.symm.trans h) (by simp)
      · exact h.symm.trans hv
    show ((show Option τ from s'.1).bind fun t => some (t, s1)) = _
    rw [this]; rfl)
theorem SX.isin {ω' : Type} {neg : Bool} {f : Env [τ, α] → Option (Bool × Env [τ, α])} {ma : M αs α} {mo : M αs τ} {Φ : Bool → Env αs → Option ω → Prop}
    (h : SX ma s o fun a s1 o1 => SX mo s1 o1 fun t s2 o2 => ∃ (u : Option ω') (k : ω' → Option ω) (val : ω' → Bool) (emb : ω' → Env [τ, α]), o2 = u.bind k ∧ Sim u f ((some t, (some a, ())) : Option τ × (Option α × Unit)) val emb ∧ ∀ w, Φ (bif neg then !(val w) else val w) s2 (k w)) : SX (mIn neg f ma mo) s o Φ :=
  SX.bd (n := fun a s => (mo s).bind fun q => (f ((some q.1, (some a, ())) : Option τ × (Option α × Unit))).bind fun r => some (if neg then !r.1 else r.1, q.2)) (h.mono fun a s1 o1 h1 => SX.bd (n := fun b s => (f ((some b, (some a, ())) : Option τ × (Option α × Unit))).bind fun r => some (if neg then !r.1 else r.1, s)) (h1.mono fun t s2 o2 ⟨u, k, val, emb, e, sim, h2⟩ w ew => by
    subst e
    obtain ⟨v, e1, e2⟩ := bindE ew
    obtain ⟨s', e3, l⟩ := sim v e1
    exact ⟨_, s2, k v, by rw [e3]; cases neg <;> rfl, h2 v, e2⟩))
theorem SX.lenO {ω' : Type} {f : Env [τ] → Option (Int × Env [τ])} {mo : M αs τ} {Φ : Int → Env αs → Option ω → Prop}
    (h : SX mo s o fun t s2 o2 => ∃ (u : Option ω') (k : ω' → Option ω) (val : ω' → Int) (emb : ω' → Env [τ]), o2 = u.bind k ∧ Sim u f ((some t, ()) : Option τ × Unit) val emb ∧ ∀ w, Bd (len63 (val w)) s2 (k w) Φ) : SX (mLenO f mo) s o Φ :=
  SX.bd (n := fun b s => (f ((some b, ()) : Option τ × Unit)).bind fun r => (len63 r.1).bind fun n => some (n, s)) (h.mono fun t s2 o2 ⟨u, k, val, emb, e, sim, h2⟩ w ew => by
    subst e
    obtain ⟨v, e1, e2⟩ := bindE ew
    obtain ⟨s', e3, l⟩ := sim v e1
    obtain ⟨k2, e4, h3⟩ := h2 v
    rw [e4] at e2
    obtain ⟨n, e5, e6⟩ := bindE e2
    exact ⟨n, s2, k2 n, by rw [e3]; show (len63 (val v)).bind _ = _; rw [e5]; rfl, h3 n, e6⟩)
theorem SX.pop {x : Var αs (List α)} {Φ : α → Env αs → Option ω → Prop} {xs : List α} (h0 : x.get s = some xs) (h : ∃ k, o = (popO xs).bind k ∧ ∀ y, Φ y (x.set (some xs.dropLast) s) (k y)) : SX (mPop x) s o Φ := fun w e => by
  obtain ⟨k, rfl, h1⟩ := h
  obtain ⟨y, e1, e2⟩ := bindE e
  refine ⟨y, x.set (some xs.dropLast) s, k y, ?_, h1 y, e2⟩
  unfold mPop
  rw [h0]
  show (xs[xs.length - 1]?).bind _ = _
  have e1' : xs[xs.length - 1]? = some y := e1
  rw [e1']; rfl
/-- comprehensions -/
theorem Var.set_get' : ∀ {αs : List Type} {α : Type} (x : Var αs α) (s : Env αs), x.set (x.get s) s = s
  | _, _, .vz, _ => rfl
  | _, _, .vs x, s => by
    show (s.1, x.set (x.get s.2) s.2) = s
    rw [x.set_get' s.2]; rfl
theorem own1 {x : Var αs α} {a : Option α} : (Own.one x).rs s (x.set a s) = s := by
  show x.set (x.get s) (x.set a s) = s
  rw [Var.set_set, Var.set_get']
theorem own2 {x : Var αs α} {z : Var αs β} {e} {a : Option α} {b : Option β} : (Own.two x z e).rs s (z.set b (x.set a s)) = s := by
  show z.set (z.get s) (x.set (x.get s) (z.set b (x.set a s))) = s
  rw [Var.set_comm x z _ _ _ e, Var.set_set, Var.set_set, Var.set_get', Var.set_get']
theorem loopC_O {f : α → Env αs → Env αs} {rs : Env αs → Env αs → Env αs} {mt : M αs Bool} {me : M αs β} {p : α → Option Bool} {g : α → Option β} (hr : ∀ x, rs s (f x s) = s) (ht : ∀ x, VO mt (f x s) (p x)) (he : ∀ x, VO me (f x s) (g x)) : ∀ (xs : List α) (ys : List β), lcO p g xs = some ys → loopC f rs mt me xs s = some (ys, s)
  | [], _, e => by cases e; rfl
  | x :: xs, ys, e => by
    obtain ⟨b, e1, e2⟩ := bindE (show (p x).bind _ = _ from e)
    show (mt (f x s)).bind _ = _
    rw [(ht x).run e1]
    cases b with
    | false =>
      show loopC f rs mt me xs (rs s (f x s)) = _
      rw [hr]
      exact loopC_O hr ht he xs ys e2
    | true =>
      obtain ⟨y, e3, e4⟩ := bindE (show (g x).bind _ = _ from e2)
      obtain ⟨zs, e5, e6⟩ := bindE e4
      cases e6
      show (me (f x s)).bind _ = _
      rw [(he x).run e3]
      show (loopC f rs mt me xs (rs s (f x s))).bind _ = _
      rw [hr, loopC_O hr ht he xs zs e5]; rfl
theorem SX.lcO {mi : M αs (List α)} {f : α → Env αs → Env αs} {rs : Env αs → Env αs → Env αs} {mt : M αs Bool} {me : M αs β} {Φ : List β → Env αs → Option ω → Prop} (hr : ∀ x s, rs s (f x s) = s)
    (h : SX mi s o fun xs s1 o1 => ∃ p g k, o1 = (cap xs (Sm.lcO p g xs)).bind k ∧ (∀ x, VO mt (f x s1) (p x)) ∧ (∀ x, VO me (f x s1) (g x)) ∧ ∀ ys, Φ ys s1 (k ys)) : SX (mLc mi f rs mt me) s o Φ :=
  SX.bd (n := fun (xs : List α) s => if xs.length ≤ 1000000 then loopC f rs mt me xs s else none) (h.mono fun xs s1 o1 ⟨p, g, k, eo, ht, he, h1⟩ w ew => by
    subst eo
    obtain ⟨ys, e1, e2⟩ := bindE ew
    unfold cap at e1
    by_cases hl : xs.length ≤ 1000000
    · rw [if_pos hl] at e1
      exact ⟨ys, s1, k ys, by show (if xs.length ≤ 1000000 then loopC f rs mt me xs s1 else none) = _; rw [if_pos hl]; exact loopC_O (fun x => hr x s1) ht he xs ys e1, h1 ys, e2⟩
    · rw [if_neg hl] at e1; cases e1)
theorem loopC_S {f : α → Env αs → Env αs} {rs : Env αs → Env αs → Env αs} {mt : M αs Bool} {me : M αs β} {p : τ → α → Option Bool} {g : τ → α → Option (β × τ)} {emb : τ → Env αs} (hr : ∀ x t, rs (emb t) (f x (emb t)) = emb t) (ht : ∀ t x, VO mt (f x (emb t)) (p t x))
    (he : ∀ t x, SX me (f x (emb t)) (g t x) fun y s' o' => ∃ t', rs (emb t) s' = emb t' ∧ o' = some (y, t')) : ∀ (xs : List α) (t : τ) (ys : List β) (t' : τ), lcS p g xs t = some (ys, t') → loopC f rs mt me xs (emb t) = some (ys, emb t')
  | [], _, _, _, e => by cases e; rfl
  | x :: xs, t, ys, t', e => by
    obtain ⟨b, e1, e2⟩ := bindE (show (p t x).bind _ = _ from e)
    show (mt (f x (emb t))).bind _ = _
    rw [(ht t x).run e1]
    cases b with
    | false =>
      show loopC f rs mt me xs (rs (emb t) (f x (emb t))) = _
      rw [hr]
      exact loopC_S hr ht he xs t ys t' e2
    | true =>
      obtain ⟨⟨y, t1⟩, e3, e4⟩ := bindE (show (g t x).bind _ = _ from e2)
      obtain ⟨⟨zs, t2⟩, e5, e6⟩ := bindE e4
      cases e6
      obtain ⟨y', s', o', h1, ⟨t3, h2, h3⟩, h4⟩ := he t x _ e3
      rw [h3] at h4
      cases h4
      show (me (f x (emb t))).bind _ = _
      rw [h1]
      show (loopC f rs mt me xs (rs (emb t) s')).bind _ = _
      rw [h2, loopC_S hr ht he xs _ zs _ e5]; rfl
theorem SX.lcS {mi : M αs (List α)} {f : α → Env αs → Env αs} {rs : Env αs → Env αs → Env αs} {mt : M αs Bool} {me : M αs β} {Φ : List β → Env αs → Option ω → Prop} (emb : τ → Env αs) (hr : ∀ x s, rs s (f x s) = s)
    (h : SX mi s o fun xs s1 o1 => ∃ t0 p g k, o1 = (cap xs (Sm.lcS p g xs t0)).bind k ∧ s1 = emb t0 ∧ (∀ t x, VO mt (f x (emb t)) (p t x)) ∧ (∀ t x, SX me (f x (emb t)) (g t x) fun y s' o' => ∃ t', rs (emb t) s' = emb t' ∧ o' = some (y, t')) ∧ ∀ w, Φ w.1 (emb w.2) (k w)) : SX (mLc mi f rs mt me) s o Φ :=
  SX.bd (n := fun (xs : List α) s => if xs.length ≤ 1000000 then loopC f rs mt me xs s else none) (h.mono fun xs s1 o1 ⟨t0, p, g, k, eo, es, ht, he, h1⟩ w ew => by
    subst es eo
    obtain ⟨⟨ys, t'⟩, e1, e2⟩ := bindE ew
    unfold cap at e1
    by_cases hl : xs.length ≤ 1000000
    · rw [if_pos hl] at e1
      exact ⟨ys, emb t', k (ys, t'), by show (if xs.length ≤ 1000000 then loopC f rs mt me xs (emb t0) else none) = _; rw [if_pos hl]; exact loopC_S (fun x t => hr x _) ht he xs t0 ys t' e1, h1 (ys, t'), e2⟩
    · rw [if_neg hl] at e1; cases e1)

/-! ### statements -/
def SS (m : MS αs ρ) (s : Env αs) (o : Option ω) (Ψ : Ctl ρ → Env αs → Option ω → Prop) : Prop := ∀ w, o = some w → ∃ c s1 s' o', m s = some (c, s1) ∧ Le s' s1 ∧ Ψ c s' o' ∧ o' = some w
@[reducible] def Sq (n : MS αs ρ) (Ψ : Ctl ρ → Env αs → Option ω → Prop) : Ctl ρ → Env αs → Option ω → Prop
  | .nx, s, o => SS n s o Ψ
  | c, s, o => Ψ c s o
variable {Ψ : Ctl ρ → Env αs → Option ω → Prop}
theorem SS.of {m : MS αs ρ} (h : SX m s o Ψ) : SS m s o Ψ := fun w e => by
  obtain ⟨c, s', o', h1, h2, h3⟩ := h w e
  exact ⟨c, s', s', o', h1, Le.refl _, h2, h3⟩
theorem SS.seq {m n : MS αs ρ} [mn : Mo n] (h : SS m s o (Sq n Ψ)) : SS (sSeq m n) s o Ψ := fun w e => by
  obtain ⟨c, s1, s', o', h1, l, h2, h3⟩ := h w e
  unfold sSeq
  rw [h1]
  cases c with
  | nx =>
    obtain ⟨c2, s2, s2', o2, h4, l2, h5, h6⟩ := (show SS n s' o' Ψ from h2) w h3
    obtain ⟨s3, h7, l3⟩ := mn.mo l h4
    exact ⟨c2, s3, s2', o2, h7, l2.trans l3, h5, h6⟩
  | bk => exact ⟨.bk, s1, s', o', rfl, l, h2, h3⟩
  | ct => exact ⟨.ct, s1, s', o', rfl, l, h2, h3⟩
  | rt r => exact ⟨.rt r, s1, s', o', rfl, l, h2, h3⟩
theorem SS.seqX {m n : MS αs ρ} (h : SX m s o (Sq n Ψ)) : SS (sSeq m n) s o Ψ := fun w e => by
  obtain ⟨c, s1, o', h1, h2, h3⟩ := h w e
  unfold sSeq
  rw [h1]
  cases c with
  | nx => exact (show SS n s1 o' Ψ from h2) w h3
  | bk => exact ⟨.bk, s1, s1, o', rfl, Le.refl _, h2, h3⟩
  | ct => exact ⟨.ct, s1, s1, o', rfl, Le.refl _, h2, h3⟩
  | rt r => exact ⟨.rt r, s1, s1, o', rfl, Le.refl _, h2, h3⟩
@[reducible] def SqX (n : MS αs ρ) (Ψ : Ctl ρ → Env αs → Option ω → Prop) : Ctl ρ → Env αs → Option ω → Prop
  | .nx, s, o => SX n s o Ψ
  | c, s, o => Ψ c s o
theorem SX.seq {m n : MS αs ρ} (h : SX m s o (SqX n Ψ)) : SX (sSeq m n) s o Ψ := fun w e => by
  obtain ⟨c, s1, o', h1, h2, h3⟩ := h w e
  unfold sSeq
  rw [h1]
  cases c with
  | nx => exact (show SX n s1 o' Ψ from h2) w h3
  | bk => exact ⟨.bk, s1, o', rfl, h2, h3⟩
  | ct => exact ⟨.ct, s1, o', rfl, h2, h3⟩
  | rt r => exact ⟨.rt r, s1, o', rfl, h2, h3⟩
theorem SX.skip (h : Ψ .nx s o) : SX (sSkip : MS αs ρ) s o Ψ := fun w e => ⟨.nx, s, o, rfl, h, e⟩
theorem SX.bk (h : Ψ .bk s o) : SX (sBk : MS αs ρ) s o Ψ := fun w e => ⟨.bk, s, o, rfl, h, e⟩
theorem SX.ct (h : Ψ .ct s o) : SX (sCt : MS αs ρ) s o Ψ := fun w e => ⟨.ct, s, o, rfl, h, e⟩
theorem SX.fail : SX (sFail : MS αs ρ) s (none : Option ω) Ψ := fun w e => by cases e
theorem SX.no {m : MS αs ρ} : SX m s (none : Option ω) Ψ := fun w e => by cases e
theorem SX.asg {x : Var αs α} {m : M αs α} (h : SX m s o fun a s1 o1 => Ψ .nx (x.set (some a) s1) o1) : SX (sAsg x m) s o Ψ :=
  SX.bd (n := fun a s => some (Ctl.nx, x.set (some a) s)) (h.mono fun a s1 o1 h1 => SX.rt h1)
theorem SX.sret {m : M αs ρ} (h : SX m s o fun a s1 o1 => Ψ (.rt a) s1 o1) : SX (sRet m) s o Ψ :=
  SX.bd (n := fun a s => some (Ctl.rt a, s)) (h.mono fun a s1 o1 h1 => SX.rt (f := id) h1)
theorem SX.drop {m : M αs α} (h : SX m s o fun _ s1 o1 => Ψ .nx s1 o1) : SX (sDrop m) s o Ψ :=
  SX.bd (n := fun _ s => some (Ctl.nx, s)) (h.mono fun a s1 o1 h1 => SX.rt (f := id) h1)
theorem SS.ite {c : M αs Bool} {m n : MS αs ρ} (h : SX c s o fun b s1 o1 => ∃ u w, o1 = (if b = true then u else w) ∧ SS m s1 u Ψ ∧ SS n s1 w Ψ) : SS (sIf c m n) s o Ψ := fun w e => by
  obtain ⟨b, s1, o1, h1, ⟨u, v, rfl, h2, h3⟩, h4⟩ := h w e
  unfold sIf
  rw [h1]
  cases b with
  | true => exact h2 w h4
  | false => exact h3 w h4
theorem SS.iteT {c : M αs Bool} {m n : MS αs ρ} (h : SX c s o fun b s1 o1 => b = true ∧ SS m s1 o1 Ψ) : SS (sIf c m n) s o Ψ := fun w e => by
  obtain ⟨b, s1, o1, h1, ⟨rfl, h2⟩, h4⟩ := h w e
  unfold sIf
  rw [h1]
  exact h2 w h4
theorem SS.iteN {c : M αs Bool} {m n : MS αs ρ} (h : SX c s o fun b s1 o1 => b = false ∧ SS n s1 o1 Ψ) : SS (sIf c m n) s o Ψ := fun w e => by
  obtain ⟨b, s1, o1, h1, ⟨rfl, h2⟩, h4⟩ := h w e
  unfold sIf
  rw [h1]
  exact h2 w h4
theorem SX.sif {c : M αs Bool} {m n : MS αs ρ} (h : SX c s o fun b s1 o1 => ∃ u w, o1 = (if b = true then u else w) ∧ SX m s1 u Ψ ∧ SX n s1 w Ψ) : SX (sIf c m n) s o Ψ := fun w e => by
  obtain ⟨b, s1, o1, h1, ⟨u, v, rfl, h2, h3⟩, h4⟩ := h w e
  unfold sIf
  rw [h1]
  cases b with
  | true => exact h2 w h4
  | false => exact h3 w h4
theorem SX.sifT {c : M αs Bool} {m n : MS αs ρ} (h : SX c s o fun b s1 o1 => b = true ∧ SX m s1 o1 Ψ) : SX (sIf c m n) s o Ψ := fun w e => by
  obtain ⟨b, s1, o1, h1, ⟨rfl, h2⟩, h4⟩ := h w e
  unfold sIf
  rw [h1]
  exact h2 w h4
theorem SX.sifN {c : M αs Bool} {m n : MS αs ρ} (h : SX c s o fun b s1 o1 => b = false ∧ SX n s1 o1 Ψ) : SX (sIf c m n) s o Ψ := fun w e => by
  obtain ⟨b, s1, o1, h1, ⟨rfl, h2⟩, h4⟩ := h w e
  unfold sIf
  rw [h1]
  exact h2 w h4
theorem SX.setI {x : Var αs (List α)} {mi : M αs Int} {me : M αs α} (h : SX me s o fun v s1 o1 => (∃ z, x.get s1 = some z) ∧ SX mi s1 o1 fun i s2 o2 => ∃ xs, x.get s2 = some xs ∧ Bd (setAt xs i v) s2 o2 fun ys s3 o3 => Ψ .nx (x.set (some ys) s3) o3) : SX (sSetI x mi me) s o Ψ :=
  SX.bd (n := fun v s => (x.get s).bind fun _ => (mi s).bind fun q => (x.get q.2).bind fun xs => (setAt xs q.1 v).bind fun ys => some ((Ctl.nx : Ctl ρ), x.set (some ys) q.2)) (h.mono fun v s1 o1 ⟨⟨z, hz⟩, h1⟩ w ew => by
    obtain ⟨i, s2, o2, h2, ⟨xs, h3, k, rfl, h4⟩, h5⟩ := h1 w ew
    obtain ⟨ys, e1, e2⟩ := bindE h5
    refine ⟨Ctl.nx, x.set (some ys) s2, k ys, ?_, h4 ys, e2⟩
    show (x.get s1).bind _ = _
    rw [hz]
    show (mi s1).bind _ = _
    rw [h2]
    show (x.get s2).bind _ = _
    rw [h3]
    show (setAt xs i v).bind _ = _
    rw [e1]; rfl)
theorem SX.app {x : Var αs (List α)} {me : M αs α} {z : List α} (h0 : x.get s = some z) (h : SX me s o fun v s1 o1 => ∃ xs, x.get s1 = some xs ∧ Bd (appO xs v) s1 o1 fun ys s2 o2 => Ψ .nx (x.set (some ys) s2) o2) : SX (sApp x me) s o Ψ := fun w e => by
  obtain ⟨v, s1, o1, h1, ⟨xs, h2, k, rfl, h3⟩, h4⟩ := h w e
  obtain ⟨ys, e1, e2⟩ := bindE h4
  refine ⟨.nx, x.set (some ys) s1, k ys, ?_, h3 ys, e2⟩
  unfold sApp
  rw [h0]
  show (me s).bind _ = _
  rw [h1]
  show (x.get s1).bind _ = _
  rw [h2]
  show (if xs.length < 1000000 then some (Ctl.nx, x.set (some (xs ++ [v])) s1) else none) = _
  unfold appO at e1
  obtain ⟨h5, rfl⟩ := ite_some e1
  rw [if_pos h5]
theorem SX.ext {x : Var αs (List α)} {me : M αs (List α)} {z : List α} (h0 : x.get s = some z) (h : SX me s o fun v s1 o1 => ∃ xs, x.get s1 = some xs ∧ Bd (extO xs v) s1 o1 fun ys s2 o2 => Ψ .nx (x.set (some ys) s2) o2) : SX (sExt x me) s o Ψ := fun w e => by
  obtain ⟨v, s1, o1, h1, ⟨xs, h2, k, rfl, h3⟩, h4⟩ := h w e
  obtain ⟨ys, e1, e2⟩ := bindE h4
  refine ⟨.nx, x.set (some ys) s1, k ys, ?_, h3 ys, e2⟩
  unfold sExt
  rw [h0]
  show (me s).bind _ = _
  rw [h1]
  show (x.get s1).bind _ = _
  rw [h2]
  show (if xs.length + v.length ≤ 1000000 then some (Ctl.nx, x.set (some (xs ++ v)) s1) else none) = _
  unfold extO at e1
  obtain ⟨h5, rfl⟩ := ite_some e1
  rw [if_pos h5]
theorem SX.rev {x : Var αs (List α)} {xs : List α} (h0 : x.get s = some xs) (h : Ψ .nx (x.set (some xs.reverse) s) o) : SX (sRev x) s o Ψ := fun w e => ⟨.nx, _, o, by unfold sRev; rw [h0]; rfl, h, e⟩
theorem SX.clr {x : Var αs (List α)} {xs : List α} (h0 : x.get s = some xs) (h : Ψ .nx (x.set (some []) s) o) : SX (sClr x) s o Ψ := fun w e => ⟨.nx, _, o, by unfold sClr; rw [h0]; rfl, h, e⟩
theorem SX.aug {x : Var αs Int} {f : Int → Int → Option Int} {me : M αs Int} {a : Int} (h0 : x.get s = some a) (h : SX me s o fun b s1 o1 => ∃ c, f a b = some c ∧ Ψ .nx (x.set (some c) s1) o1) : SX (sAug x f me) s o Ψ := fun w e => by
  obtain ⟨b, s1, o1, h1, ⟨c, h2, h3⟩, h4⟩ := h w e
  refine ⟨.nx, _, o1, ?_, h3, h4⟩
  unfold sAug
  rw [h0]
  show (me s).bind _ = _
  rw [h1]
  show (f a b).bind _ = _
  rw [h2]; rfl
theorem SX.asgG {f : α → Env αs → Env αs} {m : M αs α} (h : SX m s o fun a s1 o1 => Ψ .nx (f a s1) o1) : SX (sAsgG f m) s o Ψ :=
  SX.bd (n := fun a s => some (Ctl.nx, f a s)) (h.mono fun a s1 o1 h1 => SX.rt h1)
theorem SX.par {x : Var αs α} {y : Var αs β} {m : M αs α} {l : M αs β} (h : SX m s o fun a s1 o1 => SX l s1 o1 fun b s2 o2 => Ψ .nx (y.set (some b) (x.set (some a) s2)) o2) : SX (sPar x y m l) s o Ψ :=
  SX.bd (n := fun a s => (l s).bind fun q => some (Ctl.nx, y.set (some q.1) (x.set (some a) q.2))) (h.mono fun a s1 o1 h1 => SX.bd (n := fun b s => some (Ctl.nx, y.set (some b) (x.set (some a) s))) (h1.mono fun b s2 o2 h2 => SX.rt (f := fun s => y.set (some b) (x.set (some a) s)) h2))
theorem SX.t0 {x : Var αs (Option TreeD)} {i j l : Int} (h0 : x.get s = some none) (h : Ψ .nx (x.set (some (some ⟨[i], [j], [l]⟩)) s) o) : SX (sT0 x i j l) s o Ψ := fun w e => ⟨.nx, _, o, by unfold sT0; rw [h0]; rfl, h, e⟩
noncomputable def tAdd (t : TreeD) (i j : Int) : Option TreeD := (idx t.hs i).bind fun h => if t.ps.length < 1000000 ∧ t.ls.length < 1000000 ∧ t.hs.length < 1000000 then some ⟨t.ps ++ [i], t.ls ++ [j], t.hs ++ [h + j]⟩ else none
theorem SX.ta {x : Var αs (Option TreeD)} {y z : Var αs Int} {t : TreeD} {i j : Int} (h0 : x.get s = some (some t)) (hy : y.get s = some i) (hz : z.get s = some j) (h : Bd (tAdd t i j) s o fun t' s1 o1 => Ψ .nx (x.set (some (some t')) s1) o1) : SX (sTA x y z) s o Ψ := fun w e => by
  obtain ⟨k, rfl, h1⟩ := h
  obtain ⟨t', e1, e2⟩ := bindE e
  refine ⟨.nx, _, k t', ?_, h1 t', e2⟩
  unfold sTA
  rw [h0]
  show (y.get s).bind _ = _
  rw [hy]
  show (z.get s).bind _ = _
  rw [hz]
  show (idx t.hs i).bind _ = _
  obtain ⟨g, e3, e4⟩ := bindE e1
  rw [e3]
  obtain ⟨h5, rfl⟩ := ite_some e4
  show (if _ then _ else none) = _
  rw [if_pos h5]
/-- branches that meet -/
theorem SS.join {m n : MS αs ρ} [mn : Mo n] (emb : τ → Env αs) {u : Option τ} {k : τ → Option ω} (h : SS m s u fun c s' o' => ∃ t, o' = some t ∧ c = .nx ∧ Le (emb t) s') (h2 : ∀ t, SS n (emb t) (k t) Ψ) : SS (sSeq m n) s (u.bind k) Ψ := fun w e => by
  obtain ⟨t, e1, e2⟩ := bindE e
  obtain ⟨c, s1, s', o', h1, l, ⟨t', h3, rfl, l1⟩, h4⟩ := h t e1
  rw [h3] at h4
  cases h4
  obtain ⟨c2, s2, s2', o2, h5, l2, h6, h7⟩ := h2 t w e2
  obtain ⟨s3, h8, l3⟩ := mn.mo (l1.trans l) h5
  exact ⟨c2, s3, s2', o2, by unfold sSeq; rw [h1]; exact h8, l2.trans l3, h6, h7⟩
/-- loops -/
def WM (emb : τ → Env αs) : Ctl ρ → Env αs → Option τ → Prop := fun c s' o' => ∃ t, o' = some t ∧ (c = .nx ∨ c = .ct) ∧ Le (emb t) s'
theorem WM.mk {emb : τ → Env αs} {c : Ctl ρ} {t : τ} (h : c = .nx ∨ c = .ct) (l : Le (emb t) s) : WM emb c s (some t) := ⟨t, rfl, h, l⟩
def WL {ω' : Type} (emb : τ → Env αs) (val : ω' → ρ) (embR : ω' → Env αs) : Ctl ρ → Env αs → Option (Lp τ ω') → Prop := fun c s' o' => ∃ l, o' = some l ∧ match l with
  | .nx t => (c = .nx ∨ c = .ct) ∧ Le (emb t) s'
  | .bk t => c = .bk ∧ Le (emb t) s'
  | .rt r => c = .rt (val r) ∧ Le (embR r) s'
theorem WL.nxI {ω' : Type} {emb : τ → Env αs} {val : ω' → ρ} {embR : ω' → Env αs} {c : Ctl ρ} {t : τ} (h : c = .nx ∨ c = .ct) (l : Le (emb t) s) : WL emb val embR c s (some (.nx t)) := ⟨_, rfl, h, l⟩
theorem WL.bkI {ω' : Type} {emb : τ → Env αs} {val : ω' → ρ} {embR : ω' → Env αs} {t : τ} (l : Le (emb t) s) : WL emb val embR .bk s (some (.bk t)) := ⟨_, rfl, rfl, l⟩
theorem WL.rtI {ω' : Type} {emb : τ → Env αs} {val : ω' → ρ} {embR : ω' → Env αs} {r : ω'} (l : Le (embR r) s) : WL emb val embR (.rt (val r)) s (some (.rt r)) := ⟨_, rfl, rfl, l⟩
def Lp.elim {ω' : Type} (k : τ → Option ω) (j : ω' → Option ω) : Lp τ ω' → Option ω
  | .nx t => k t
  | .bk t => k t
  | .rt r => j r
theorem loopF_M {f : α → Env αs → Env αs} {m : MS αs ρ} [mf : MoF f] [mm : Mo m] {B : τ → α → Option τ} {emb : τ → Env αs} (hb : ∀ t x, SS m (f x (emb t)) (B t x) (WM emb)) : ∀ (xs : List α) (t t' : τ) (s : Env αs), Le (emb t) s → forM B xs t = some t' → ∃ s', loopF f m xs s = some (.nx, s') ∧ Le (emb t') s'
  | [], t, t', s, l, e => by cases e; exact ⟨s, rfl, l⟩
  | x :: xs, t, t', s, l, e => by
    obtain ⟨t1, e1, e2⟩ := bindE (show (B t x).bind _ = _ from e)
    obtain ⟨c, s1, s', o', h1, l1, ⟨t2, h2, h3, l2⟩, h4⟩ := hb t x t1 e1
    rw [h2] at h4
    cases h4
    obtain ⟨s3, h5, l3⟩ := mm.mo (mf.mo x l) h1
    obtain ⟨s4, h6, l4⟩ := loopF_M hb xs _ t' s3 ((l2.trans l1).trans l3) e2
    refine ⟨s4, ?_, l4⟩
    show (m (f x s)).bind _ = _
    rw [h5]
    rcases h3 with rfl | rfl <;> exact h6
theorem SS.forM {mi : M αs (List α)} {f : α → Env αs → Env αs} {m : MS αs ρ} [mf : MoF f] [mm : Mo m] (emb : τ → Env αs) (h : SX mi s o fun xs s1 o1 => ∃ B t0 k, o1 = (Sm.forM B xs t0).bind k ∧ Le (emb t0) s1 ∧ (∀ t x, SS m (f x (emb t)) (B t x) (WM emb)) ∧ ∀ t, Ψ .nx (emb t) (k t)) : SS (sFor mi f m) s o Ψ := fun w e => by
  obtain ⟨xs, s1, o1, h1, ⟨B, t0, k, rfl, l, hb, h2⟩, h3⟩ := h w e
  obtain ⟨t, e1, e2⟩ := bindE h3
  obtain ⟨s', h4, l4⟩ := loopF_M hb xs t0 t s1 l e1
  exact ⟨.nx, s', emb t, k t, by unfold sFor; rw [h1]; exact h4, l4, h2 t, e2⟩
theorem loopF_L {ω' : Type} {f : α → Env αs → Env αs} {m : MS αs ρ} [mf : MoF f] [mm : Mo m] {B : τ → α → Option (Lp τ ω')} {emb : τ → Env αs} {val : ω' → ρ} {embR : ω' → Env αs} (hb : ∀ t x, SS m (f x (emb t)) (B t x) (WL emb val embR)) :
    ∀ (xs : List α) (t : τ) (s : Env αs) (r : Lp τ ω'), Le (emb t) s → forL B xs t = some r → ∃ c s', loopF f m xs s = some (c, s') ∧ match r with | .nx t' => c = .nx ∧ Le (emb t') s' | .bk _ => False | .rt r => c = .rt (val r) ∧ Le (embR r) s'
  | [], t, s, r, l, e => by cases e; exact ⟨.nx, s, rfl, rfl, l⟩
  | x :: xs, t, s, r, l, e => by
    obtain ⟨p, e1, e2⟩ := bindE (show (B t x).bind _ = _ from e)
    obtain ⟨c, s1, s', o', h1, l1, ⟨p2, h2, h3⟩, h4⟩ := hb t x p e1
    rw [h2] at h4
    cases h4
    obtain ⟨s3, h5, l3⟩ := mm.mo (mf.mo x l) h1
    have e0 : loopF f m (x :: xs) s = (m (f x s)).bind fun p => match p.1 with
      | .nx => loopF f m xs p.2
      | .ct => loopF f m xs p.2
      | .bk => some (.nx, p.2)
      | .rt r => some (.rt r, p.2) := rfl
    rw [e0, h5]
    cases p with
    | nx t1 =>
      obtain ⟨c4, s4, h6, h7⟩ := loopF_L hb xs t1 s3 r ((h3.2.trans l1).trans l3) e2
      refine ⟨c4, s4, ?_, h7⟩
      rcases h3.1 with rfl | rfl <;> exact h6
    | bk t1 =>
      cases e2
      obtain ⟨rfl, l4⟩ := h3
      exact ⟨.nx, s3, rfl, rfl, (l4.trans l1).trans l3⟩
    | rt r1 =>
      cases e2
      obtain ⟨rfl, l4⟩ := h3
      exact ⟨_, s3, rfl, rfl, (l4.trans l1).trans l3⟩
theorem SS.forL {ω' : Type} {mi : M αs (List α)} {f : α → Env αs → Env αs} {m : MS αs ρ} [mf : MoF f] [mm : Mo m] (emb : τ → Env αs) (val : ω' → ρ) (embR : ω' → Env αs)
    (h : SX mi s o fun xs s1 o1 => ∃ (B : τ → α → Option (Lp τ ω')) (t0 : τ) (k : τ → Option ω) (j : ω' → Option ω), o1 = (Sm.forL B xs t0).bind (Lp.elim k j) ∧ Le (emb t0) s1 ∧ (∀ t x, SS m (f x (emb t)) (B t x) (WL emb val embR)) ∧ (∀ t, Ψ .nx (emb t) (k t)) ∧ ∀ r, Ψ (.rt (val r)) (embR r) (j r)) : SS (sFor mi f m) s o Ψ := fun w e => by
  obtain ⟨xs, s1, o1, h1, ⟨B, t0, k, j, rfl, l, hb, h2, h3⟩, h4⟩ := h w e
  obtain ⟨r, e1, e2⟩ := bindE h4
  obtain ⟨c, s', h5, h6⟩ := loopF_L hb xs t0 s1 r l e1
  have h7 : sFor mi f m s = some (c, s') := by unfold sFor; rw [h1]; exact h5
  cases r with
  | nx t => obtain ⟨rfl, l4⟩ := h6; exact ⟨.nx, s', emb t, k t, h7, l4, h2 t, e2⟩
  | bk t => exact h6.elim
  | rt r => obtain ⟨rfl, l4⟩ := h6; exact ⟨_, s', embR r, j r, h7, l4, h3 r, e2⟩
theorem whN_more {c : τ → Option Bool} {B : τ → Option (Lp τ ω)} : ∀ (n : Nat) (t : τ) (r), whN c B n t = some r → whN c B (n + 1) t = some r
  | 0, _, _, h => by cases h
  | n + 1, t, r, h => by
    rw [whN] at h ⊢
    obtain ⟨p, h1, h2⟩ := bindE h
    rw [h1]
    show (if p = true then _ else _) = _
    by_cases hp : p = true
    · rw [if_pos hp] at h2 ⊢
      obtain ⟨q, h3, h4⟩ := bindE h2
      rw [h3]
      cases q with
      | nx t => exact whN_more n t r h4
      | bk t => exact h4
      | rt _ => exact h4
    · rw [if_neg hp] at h2 ⊢
      exact h2
theorem whN_le {c : τ → Option Bool} {B : τ → Option (Lp τ ω)} {n k : Nat} {t : τ} {r} (h : whN c B n t = some r) (hk : n ≤ k) : whN c B k t = some r := by
  induction k with
  | zero => cases Nat.le_zero.mp hk; exact h
  | succ k ih =>
    by_cases e : n = k + 1
    · subst e; exact h
    · exact whN_more k t r (ih (by omega))
theorem whL_of {c : τ → Option Bool} {B : τ → Option (Lp τ ω)} {n : Nat} {t : τ} {r} (h : whN c B n t = some r) : whL c B t = some r := by
  have hx : ∃ n r, whN c B n t = some r := ⟨n, r, h⟩
  unfold whL
  rw [dif_pos hx]
  have h2 := Classical.choose_spec (Classical.choose_spec hx)
  have h3 := whN_le h2 (Nat.le_max_left _ n)
  have h4 := whN_le h (Nat.le_max_right (Classical.choose hx) n)
  rw [h3] at h4
  exact h4
theorem whL_to {c : τ → Option Bool} {B : τ → Option (Lp τ ω)} {t : τ} {r} (h : whL c B t = some r) : ∃ n, whN c B n t = some r := by
  unfold whL at h
  by_cases hx : ∃ n r, whN c B n t = some r
  · rw [dif_pos hx] at h
    cases h
    exact ⟨_, Classical.choose_spec (Classical.choose_spec hx)⟩
  · rw [dif_neg hx] at h; cases h
theorem whL_eq {c : τ → Option Bool} {B : τ → Option (Lp τ ω)} {t : τ} : whL c B t = (c t).bind fun b => if b = true then (B t).bind fun p => match p with | .nx t => whL c B t | .bk t => some (.nx t) | .rt r => some (.rt r) else some (.nx t) := by
  refine Option.ext fun r => ⟨fun h => ?_, fun h => ?_⟩
  · obtain ⟨n, h⟩ := whL_to h
    cases n with
    | zero => cases h
    | succ n =>
      rw [whN] at h
      obtain ⟨p, h1, h2⟩ := bindE h
      rw [h1]
      show (if p = true then _ else _) = _
      by_cases hp : p = true
      · rw [if_pos hp] at h2 ⊢
        obtain ⟨q, h3, h4⟩ := bindE h2
        rw [h3]
        cases q with
        | nx t => exact whL_of h4
        | bk t => exact h4
        | rt _ => exact h4
      · rw [if_neg hp] at h2 ⊢; exact h2
  · obtain ⟨p, h1, h2⟩ := bindE h
    have key : ∃ n, whN c B n t = some r := by
      by_cases hp : p = true
      · rw [if_pos hp] at h2
        obtain ⟨q, h3, h4⟩ := bindE h2
        cases q with
        | nx t' =>
          obtain ⟨n, h5⟩ := whL_to h4
          refine ⟨n + 1, ?_⟩
          rw [whN, h1]
          show (if p = true then _ else _) = _
          rw [if_pos hp, h3]; exact h5
        | bk t' =>
          refine ⟨1, ?_⟩
          rw [whN, h1]
          show (if p = true then _ else _) = _
          rw [if_pos hp, h3]; exact h4
        | rt _ =>
          refine ⟨1, ?_⟩
          rw [whN, h1]
          show (if p = true then _ else _) = _
          rw [if_pos hp, h3]; exact h4
      · rw [if_neg hp] at h2
        refine ⟨1, ?_⟩
        rw [whN, h1]
        show (if p = true then _ else _) = _
        rw [if_neg hp]; exact h2
    obtain ⟨n, h⟩ := key
    exact whL_of h
theorem loopW_L {ω' : Type} {mc : M αs Bool} {m : MS αs ρ} [mm : Mo m] [mcc : Mo mc] {c : τ → Option Bool} {B : τ → Option (Lp τ ω')} {emb : τ → Env αs} {val : ω' → ρ} {embR : ω' → Env αs} (hc : ∀ t, VO mc (emb t) (c t)) (hb : ∀ t, SS m (emb t) (B t) (WL emb val embR)) :
    ∀ (n : Nat) (t : τ) (s : Env αs) (r : Lp τ ω'), Le (emb t) s → whN c B n t = some r → ∃ c s', loopW mc m n s = some (c, s') ∧ match r with | .nx t' => c = .nx ∧ Le (emb t') s' | .bk _ => False | .rt r => c = .rt (val r) ∧ Le (embR r) s'
  | 0, _, _, _, _, e => by cases e
  | n + 1, t, s, r, l, e => by
    obtain ⟨b, e1, e2⟩ := bindE (show (c t).bind _ = _ from e)
    obtain ⟨s1, h1, l1⟩ := mcc.mo l ((hc t).run e1)
    have e0 : loopW mc m (n + 1) s = (mc s).bind fun p => if p.1 = true then (m p.2).bind fun q => match q.1 with
      | .nx => loopW mc m n q.2
      | .ct => loopW mc m n q.2
      | .bk => some (.nx, q.2)
      | .rt r => some (.rt r, q.2) else some (.nx, p.2) := rfl
    rw [e0, h1]
    cases b with
    | false => cases e2; exact ⟨.nx, s1, rfl, rfl, l1⟩
    | true =>
      obtain ⟨p, e3, e4⟩ := bindE (show (B t).bind _ = _ from e2)
      obtain ⟨c2, s2, s', o', h2, l2, ⟨p2, h3, h4⟩, h5⟩ := hb t p e3
      rw [h3] at h5
      cases h5
      obtain ⟨s3, h6, l3⟩ := mm.mo l1 h2
      show ∃ c s', ((m s1).bind fun q => match q.1 with
        | .nx => loopW mc m n q.2
        | .ct => loopW mc m n q.2
        | .bk => some (Ctl.nx, q.2)
        | .rt r => some (Ctl.rt r, q.2)) = some (c, s') ∧ _
      rw [h6]
      cases p with
      | nx t1 =>
        obtain ⟨c4, s4, h7, h8⟩ := loopW_L hc hb n t1 s3 r ((h4.2.trans l2).trans l3) e4
        refine ⟨c4, s4, ?_, h8⟩
        rcases h4.1 with rfl | rfl <;> exact h7
      | bk t1 =>
        cases e4
        obtain ⟨rfl, l4⟩ := h4
        exact ⟨.nx, s3, rfl, rfl, (l4.trans l2).trans l3⟩
      | rt r1 =>
        cases e4
        obtain ⟨rfl, l4⟩ := h4
        exact ⟨_, s3, rfl, rfl, (l4.trans l2).trans l3⟩
theorem SS.whL {ω' : Type} {mc : M αs Bool} {m : MS αs ρ} [mm : Mo m] [mcc : Mo mc] (emb : τ → Env αs) (val : ω' → ρ) (embR : ω' → Env αs) {c : τ → Option Bool} {B : τ → Option (Lp τ ω')} {t0 : τ} {k : τ → Option ω} {j : ω' → Option ω} (l : Le (emb t0) s) (hc : ∀ t, VO mc (emb t) (c t)) (hb : ∀ t, SS m (emb t) (B t) (WL emb val embR))
    (h2 : ∀ t, Ψ .nx (emb t) (k t)) (h3 : ∀ r, Ψ (.rt (val r)) (embR r) (j r)) : SS (sWhile mc m) s ((Sm.whL c B t0).bind (Lp.elim k j)) Ψ := fun w e => by
  obtain ⟨r, e1, e2⟩ := bindE e
  obtain ⟨n, e3⟩ := whL_to e1
  obtain ⟨c, s', h5, h6⟩ := loopW_L hc hb n t0 s r l e3
  have h7 : sWhile mc m s = some (c, s') := sWhile_of h5
  cases r with
  | nx t => obtain ⟨rfl, l4⟩ := h6; exact ⟨.nx, s', emb t, k t, h7, l4, h2 t, e2⟩
  | bk t => exact h6.elim
  | rt r => obtain ⟨rfl, l4⟩ := h6; exact ⟨_, s', embR r, j r, h7, l4, h3 r, e2⟩
end
/-! defs -/
def Wf {ps ls : List Type} {ρ ω : Type} (val : ω → ρ) (emb : ω → Env ps) : Ctl ρ → Env (ps ++ ls) → Option ω → Prop := fun c s' o' => ∃ w, o' = some w ∧ c = .rt (val w) ∧ Le (emb w) (prj ls ps s')
theorem Wf.mk {ps ls : List Type} {ρ ω : Type} {val : ω → ρ} {emb : ω → Env ps} {s : Env (ps ++ ls)} {w : ω} (l : Le (emb w) (prj ls ps s)) : Wf val emb (.rt (val w)) s (some w) := ⟨w, rfl, rfl, l⟩
theorem Wf.rt {ps ls : List Type} {ρ ω : Type} {val : ω → ρ} {emb : ω → Env ps} (w : ω) : Wf (ls := ls) val emb (.rt (val w)) (ext ls ps (emb w)) (some w) := ⟨w, rfl, rfl, by rw [prj_ext]; exact Le.refl _⟩
theorem Sim.body {ps ls : List Type} {ρ ω : Type} {m : MS (ps ++ ls) ρ} {as : Env ps} {o : Option ω} {val : ω → ρ} {emb : ω → Env ps} (h : SS m (ext ls ps as) o (Wf val emb)) : Sim o (bodyF m) as val emb := fun w e => by
  obtain ⟨c, s1, s', o', h1, l, ⟨w', h2, rfl, h3⟩, h4⟩ := h w e
  rw [h2] at h4
  cases h4
  exact ⟨prj ls ps s1, by unfold bodyF; rw [h1]; rfl, h3.trans (Le.prj l)⟩
def WN {ps ls : List Type} {ω : Type} (emb : ω → Env ps) : Ctl Unit → Env (ps ++ ls) → Option ω → Prop := fun c s' o' => ∃ w, o' = some w ∧ (c = .rt () ∨ c = .nx) ∧ Le (emb w) (prj ls ps s')
theorem WN.mk {ps ls : List Type} {ω : Type} {emb : ω → Env ps} {c : Ctl Unit} {s : Env (ps ++ ls)} {w : ω} (h : c = .rt () ∨ c = .nx) (l : Le (emb w) (prj ls ps s)) : WN emb c s (some w) := ⟨w, rfl, h, l⟩
theorem WN.rt {ps ls : List Type} {ω : Type} {emb : ω → Env ps} (w : ω) : WN (ls := ls) emb (.rt ()) (ext ls ps (emb w)) (some w) := ⟨w, rfl, .inl rfl, by rw [prj_ext]; exact Le.refl _⟩
theorem Sim.bodyN {ps ls : List Type} {ω : Type} {m : MS (ps ++ ls) Unit} {as : Env ps} {o : Option ω} {emb : ω → Env ps} (h : SS m (ext ls ps as) o (WN emb)) : Sim o (Sm.bodyN m) as (fun _ => ()) emb := fun w e => by
  obtain ⟨c, s1, s', o', h1, l, ⟨w', h2, hc, h3⟩, h4⟩ := h w e
  rw [h2] at h4
  cases h4
  refine ⟨prj ls ps s1, ?_, h3.trans (Le.prj l)⟩
  unfold Sm.bodyN
  rw [h1]
  rcases hc with rfl | rfl <;> rfl
end Sm
/-! S20: reckoning with the plain functions. -/
namespace Sm
open PySem PySem.Spec L2
section
variable {α β γ δ ρ τ ω : Type}
theorem run_of_eq {o : Option α} {a : α} {P : α → Prop} (h : o = some a) (p : P a) : Run o P := ⟨a, h, p⟩
theorem Run.get {o : Option α} {P : α → Prop} (h : Run o P) : ∃ a, o = .some a ∧ P a := h
/-- a loop: forM -/
theorem forM_at {B : τ → α → Option τ} (Inv : Nat → τ → Prop) : ∀ (xs : List α) (i : Nat) (t : τ), Inv i t → (∀ (j : Nat) (x : α) (t : τ), xs[j]? = some x → Inv (i + j) t → Run (B t x) (Inv (i + j + 1))) → Run (forM B xs t) (Inv (i + xs.length))
  | [], i, t, h, _ => ⟨t, rfl, h⟩
  | x :: xs, i, t, h, st => by
    obtain ⟨t1, h1, h2⟩ := st 0 x t rfl h
    obtain ⟨t2, h3, h4⟩ := forM_at Inv xs (i + 1) t1 h2 fun j y t hy ht => by
      have := st (j + 1) y t (by simpa using hy) (by rw [show i + (j + 1) = i + 1 + j by omega]; exact ht)
      rw [show i + (j + 1) + 1 = i + 1 + j + 1 by omega] at this
      exact this
    refine ⟨t2, ?_, by rw [List.length_cons, show i + (xs.length + 1) = i + 1 + xs.length by omega]; exact h4⟩
    show (B t x).bind _ = _
    rw [h1]; exact h3
theorem forM_run {B : τ → α → Option τ} {xs : List α} {t : τ} (Inv : Nat → τ → Prop) (h : Inv 0 t) (st : ∀ (j : Nat) (x : α) (t : τ), xs[j]? = some x → Inv j t → Run (B t x) (Inv (j + 1))) : Run (forM B xs t) (Inv xs.length) := by
  have := forM_at (B := B) Inv xs 0 t h fun j x t hx ht => by
    rw [Nat.zero_add] at ht ⊢
    exact st j x t hx ht
  rwa [Nat.zero_add] at this
/-- .. over a range -/
theorem forM_rng {B : τ → β → Option τ} {n : Nat} {g : Nat → β} {t : τ} (Inv : Nat → τ → Prop) (h : Inv 0 t) (st : ∀ (j : Nat) (t : τ), j < n → Inv j t → Run (B t (g j)) (Inv (j + 1))) : Run (forM B ((List.range n).map g) t) (Inv n) := by
  have := forM_run (B := B) (xs := (List.range n).map g) Inv h fun j x t hx ht => by
    rw [List.getElem?_map] at hx
    by_cases hj : j < n
    · rw [List.getElem?_range hj] at hx
      cases hx
      exact st j t hj ht
    · rw [List.getElem?_eq_none (by simp; omega)] at hx
      cases hx
  simpa using this
/-- .. where each turn is known -/
theorem forM_fold {B : τ → α → Option τ} {g : τ → α → τ} {xs : List α} : ∀ (ys : List α) (t : τ), (∀ t, ∀ x ∈ ys, B t x = some (g t x)) → forM B ys t = some (ys.foldl g t)
  | [], t, _ => rfl
  | x :: ys, t, h => by
    show (B t x).bind _ = _
    rw [h t x List.mem_cons_self]
    exact forM_fold (xs := xs) ys _ fun t y hy => h t y (List.mem_cons_of_mem _ hy)
/-- a loop: forL; each turn goes on or ends in R -/
def LpP (P : τ → Prop) (R : ω → Prop) : Lp τ ω → Prop
  | .nx t => P t
  | .bk _ => False
  | .rt r => R r
theorem forL_at {B : τ → α → Option (Lp τ ω)} (Inv : Nat → τ → Prop) (K : τ → Prop) (R : ω → Prop) : ∀ (xs : List α) (i : Nat) (t : τ), Inv i t → (∀ t, Inv (i + xs.length) t → K t) → (∀ (j : Nat) (x : α) (t : τ), xs[j]? = some x → Inv (i + j) t → Run (B t x) fun l => match l with | .nx t => Inv (i + j + 1) t | .bk t => K t | .rt r => R r) →
    Run (forL B xs t) (LpP K R)
  | [], i, t, h, hk, _ => ⟨.nx t, rfl, hk t h⟩
  | x :: xs, i, t, h, hk, st => by
    obtain ⟨l, h1, h2⟩ := st 0 x t rfl h
    have e : forL B (x :: xs) t = (B t x).bind fun p => match p with
      | .nx t => forL B xs t
      | .bk t => some (.nx t)
      | .rt r => some (.rt r) := rfl
    rw [e, h1]
    cases l with
    | nx t1 =>
      exact forL_at Inv K R xs (i + 1) t1 h2 (fun t ht => hk t (by rw [List.length_cons, show i + (xs.length + 1) = i + 1 + xs.length by omega]; exact ht)) fun j y t hy ht => by
        have := st (j + 1) y t (by simpa using hy) (by rw [show i + (j + 1) = i + 1 + j by omega]; exact ht)
        rw [show i + (j + 1) + 1 = i + 1 + j + 1 by omega] at this
        exact this
    | bk t1 => exact ⟨.nx t1, rfl, h2⟩
    | rt r => exact ⟨.rt r, rfl, h2⟩
/-- .. all turns go on -/
theorem forL_on {B : τ → α → Option (Lp τ ω)} {xs : List α} {t : τ} (Inv : Nat → τ → Prop) (h : Inv 0 t) (st : ∀ (j : Nat) (x : α) (t : τ), xs[j]? = some x → Inv j t → ∃ t', B t x = some (.nx t') ∧ Inv (j + 1) t') : ∃ t', forL B xs t = some (.nx t') ∧ Inv xs.length t' := by
  obtain ⟨l, h1, h2⟩ := forL_at (B := B) Inv (Inv xs.length) (fun _ => False) xs 0 t h (fun t ht => by rwa [Nat.zero_add] at ht) fun j x t hx ht => by
    rw [Nat.zero_add] at ht ⊢
    obtain ⟨t', e, hi⟩ := st j x t hx ht
    exact ⟨.nx t', e, hi⟩
  cases l with
  | nx t' => exact ⟨t', h1, h2⟩
  | bk _ => exact h2.elim
  | rt _ => exact h2.elim
theorem forL_onR {B : τ → β → Option (Lp τ ω)} {n : Nat} {g : Nat → β} {t : τ} (Inv : Nat → τ → Prop) (h : Inv 0 t) (st : ∀ (j : Nat) (t : τ), j < n → Inv j t → ∃ t', B t (g j) = some (.nx t') ∧ Inv (j + 1) t') : ∃ t', forL B ((List.range n).map g) t = some (.nx t') ∧ Inv n t' := by
  have := forL_on (B := B) (xs := (List.range n).map g) Inv h fun j x t hx ht => by
    rw [List.getElem?_map] at hx
    by_cases hj : j < n
    · rw [List.getElem?_range hj] at hx
      cases hx
      exact st j t hj ht
    · rw [List.getElem?_eq_none (by simp; omega)] at hx
      cases hx
  simpa using this
theorem forL_run {B : τ → α → Option (Lp τ ω)} {xs : List α} {t : τ} (Inv : Nat → τ → Prop) (R : ω → Prop) (h : Inv 0 t) (st : ∀ (j : Nat) (x : α) (t : τ), xs[j]? = some x → Inv j t → Run (B t x) fun l => match l with | .nx t => Inv (j + 1) t | .bk t => Inv xs.length t | .rt r => R r) : Run (forL B xs t) (LpP (Inv xs.length) R) :=
  forL_at (B := B) Inv (Inv xs.length) R xs 0 t h (fun t ht => by rwa [Nat.zero_add] at ht) fun j x t hx ht => by
    rw [Nat.zero_add] at ht ⊢
    exact st j x t hx ht
theorem forL_rng {B : τ → β → Option (Lp τ ω)} {n : Nat} {g : Nat → β} {t : τ} (Inv : Nat → τ → Prop) (R : ω → Prop) (h : Inv 0 t) (st : ∀ (j : Nat) (t : τ), j < n → Inv j t → Run (B t (g j)) fun l => match l with | .nx t => Inv (j + 1) t | .bk t => Inv n t | .rt r => R r) : Run (forL B ((List.range n).map g) t) (LpP (Inv n) R) := by
  have := forL_run (B := B) (xs := (List.range n).map g) (t := t) Inv R h fun j x t hx ht => by
    rw [List.getElem?_map] at hx
    by_cases hj : j < n
    · rw [List.getElem?_range hj] at hx
      cases hx
      simpa using st j t hj ht
    · rw [List.getElem?_eq_none (by simp; omega)] at hx
      cases hx
  simpa using this
/-- a search: no state, each turn leaves or goes on -/
theorem forL_find {B : Unit → α → Option (Lp Unit ω)} {p : α → Bool} {r : α → ω} : ∀ (xs : List α), (∀ x ∈ xs, B () x = some (if p x = true then .rt (r x) else .nx ())) → forL B xs () = some (match xs.find? p with | some x => .rt (r x) | none => .nx ())
  | [], _ => rfl
  | x :: xs, h => by
    rw [forL, h x List.mem_cons_self, Option.bind_some]
    by_cases hp : p x = true
    · rw [if_pos hp]; simp [List.find?, hp]
    · rw [if_neg hp]
      show forL B xs () = _
      rw [forL_find xs fun y hy => h y (List.mem_cons_of_mem _ hy)]
      simp [List.find?, hp]
/-- .. where all turns go on -/
theorem forL_all {B : Unit → α → Option (Lp Unit ω)} {xs : List α} (h : ∀ x ∈ xs, B () x = some (.nx ())) : forL B xs () = some (.nx ()) := by
  induction xs with
  | nil => rfl
  | cons x xs ih =>
    rw [forL, h x List.mem_cons_self, Option.bind_some]
    exact ih fun y hy => h y (List.mem_cons_of_mem _ hy)
theorem elim_nx {k : τ → Option γ} {j : ω → Option γ} {t : τ} : Lp.elim k j (.nx t) = k t := rfl
theorem elim_rt {k : τ → Option γ} {j : ω → Option γ} {r : ω} : Lp.elim k j (.rt r : Lp τ ω) = j r := rfl
theorem elim_bk {k : τ → Option γ} {j : ω → Option γ} {t : τ} : Lp.elim k j (.bk t) = k t := rfl
/-- what comes behind a loop -/
theorem Run.elim {o : Option (Lp τ ω)} {k : τ → Option γ} {j : ω → Option γ} {P : τ → Prop} {R : ω → Prop} {Q : γ → Prop} (h : Run o (LpP P R)) (h1 : ∀ t, P t → Run (k t) Q) (h2 : ∀ r, R r → Run (j r) Q) : Run (o.bind (Lp.elim k j)) Q := by
  obtain ⟨l, rfl, p⟩ := h
  cases l with
  | nx t => exact h1 t p
  | bk t => exact p.elim
  | rt r => exact h2 r p
/-- while -/
theorem whL_run {c : τ → Option Bool} {B : τ → Option (Lp τ ω)} (Inv : τ → Prop) (μ : τ → Nat) (K : τ → Prop) (R : ω → Prop) (st : ∀ t, Inv t → Run (c t) fun b => (b = true ∧ Run (B t) fun l => match l with | .nx u => Inv u ∧ μ u < μ t | .bk u => K u | .rt r => R r) ∨ (b = false ∧ K t)) (t : τ) (h : Inv t) : Run (whL c B t) (LpP K R) := by
  have key : ∀ (k : Nat) (t : τ), μ t = k → Inv t → Run (whL c B t) (LpP K R) := by
    intro k
    induction k using Nat.strongRecOn with
    | _ k ih =>
      intro t hk hi
      rw [whL_eq]
      obtain ⟨b, e, h | h⟩ := st t hi
      · obtain ⟨rfl, l, e2, h2⟩ := h
        rw [e, Option.bind_some, if_pos rfl, e2, Option.bind_some]
        cases l with
        | nx u => exact ih (μ u) (by rw [← hk]; exact h2.2) u rfl h2.1
        | bk u => exact ⟨.nx u, rfl, h2⟩
        | rt r => exact ⟨.rt r, rfl, h2⟩
      · obtain ⟨rfl, h2⟩ := h
        rw [e]
        exact ⟨.nx t, rfl, h2⟩
  exact key (μ t) t rfl h
/-- comprehensions -/
theorem lcO_eq {p : α → Option Bool} {g : α → Option β} {P : α → Bool} {G : α → β} : ∀ (xs : List α), (∀ x ∈ xs, p x = some (P x)) → (∀ x ∈ xs, P x = true → g x = some (G x)) → lcO p g xs = some ((xs.filter P).map G)
  | [], _, _ => rfl
  | x :: xs, h, k => by
    show (p x).bind _ = _
    rw [h x List.mem_cons_self]
    show (if P x = true then _ else _) = _
    have ih := lcO_eq xs (fun y hy => h y (List.mem_cons_of_mem _ hy)) fun y hy => k y (List.mem_cons_of_mem _ hy)
    by_cases hp : P x = true
    · rw [if_pos hp, k x List.mem_cons_self hp, List.filter_cons, if_pos hp, ih]; rfl
    · rw [if_neg hp, List.filter_cons, if_neg hp, ih]
theorem lcO_map {p : α → Option Bool} {g : α → Option β} {G : α → β} (xs : List α) (h : ∀ x ∈ xs, p x = some true) (k : ∀ x ∈ xs, g x = some (G x)) : lcO p g xs = some (xs.map G) := by
  rw [lcO_eq (P := fun _ => true) (G := G) xs h fun x hx _ => k x hx, List.filter_eq_self.mpr fun _ _ => rfl]
theorem cap_ok {xs : List α} {o : Option β} (h : xs.length ≤ 1000000) : cap xs o = o := by unfold cap; rw [if_pos h]
theorem lcS_run {p : τ → α → Option Bool} {g : τ → α → Option (β × τ)} (Inv : τ → Prop) (P : β → Prop) : ∀ (xs : List α) (t : τ), Inv t → (∀ t, Inv t → ∀ x ∈ xs, p t x = some true ∧ Run (g t x) fun q => P q.1 ∧ Inv q.2) → Run (lcS p g xs t) fun w => w.1.length = xs.length ∧ (∀ y ∈ w.1, P y) ∧ Inv w.2
  | [], t, h, _ => ⟨([], t), rfl, rfl, by simp, h⟩
  | x :: xs, t, h, st => by
    obtain ⟨h1, ⟨y, t1⟩, h2, h3, h4⟩ := st t h x List.mem_cons_self
    obtain ⟨⟨ys, t2⟩, h5, h6, h7, h8⟩ := lcS_run Inv P xs t1 h4 fun t ht z hz => st t ht z (List.mem_cons_of_mem _ hz)
    refine ⟨(y :: ys, t2), ?_, by simp [h6], ?_, h8⟩
    · show (p t x).bind _ = _
      rw [h1]
      show (g t x).bind _ = _
      rw [h2]
      show (lcS p g xs t1).bind _ = _
      rw [h5]; rfl
    · intro z hz
      rcases List.mem_cons.mp hz with rfl | hz
      · exact h3
      · exact h7 z hz
theorem appO_ok {xs : List α} {v : α} (h : xs.length < 1000000) : appO xs v = some (xs ++ [v]) := by unfold appO; rw [if_pos h]
theorem extO_ok {xs ys : List α} (h : xs.length + ys.length ≤ 1000000) : extO xs ys = some (xs ++ ys) := by unfold extO; rw [if_pos h]
theorem mapI_at {g : α → β} {xs : List α} {j : Nat} {x : α} (h : xs[j]? = some x) : idx (xs.map g) (j : Int) = some (g x) := idx_nat (by rw [List.getElem?_map, h]; rfl)
theorem imod_nn {n k : Int} (h : 0 < k) : ∃ j : Nat, imod n k = some (j : Int) ∧ (j : Int) < k := ⟨(n % k).toNat, by rw [imod_pos h]; have := Int.emod_nonneg n (by omega : k ≠ 0); congr 1; omega, by have := Int.emod_lt_of_pos n h; have := Int.emod_nonneg n (by omega : k ≠ 0); omega⟩
theorem beq_dec {c d : Prop} [Decidable c] [Decidable d] (h : c ↔ d) : decide c = decide d := by
  by_cases hd : d
  · rw [decide_eq_true hd, decide_eq_true (h.mpr hd)]
  · rw [decide_eq_false hd, decide_eq_false fun z => hd (h.mp z)]
theorem ipow_18' : ipow 10 18 = some 1000000000000000000 := by rw [ipow_eq, if_pos (by decide)]; rfl
theorem bind_id {o : Option α} : (o.bind fun b => some b) = o := by cases o <;> rfl
theorem Run.ite' {c : Prop} [Decidable c] {o u : Option α} {P : α → Prop} (h1 : c → Run o P) (h2 : ¬ c → Run u P) : Run (if c then o else u) P := Run.ite h1 h2
end
end Sm
/-! S21: pop(i), list(range(n)). -/
namespace Sm
open PySem PySem.Spec L2
open Enc (enc)
section
variable {X : Cx} {αs : List Type} {Γ Γ1 Γ2 Γ' Γt : RTs X.K αs} {α β γ ρ : Type} {e e2 a b c : Expr} {es : List Expr} {pos p pn apos cpos : Pos} {n n' : Str}
/-! ### x.pop(i) -/
noncomputable def popI {α : Type} : List α → Int → Option (α × List α) := (Seal fun (xs : List α) (i : Int) => if -(2 ^ 63) ≤ i ∧ i < 2 ^ 63 then (ixN xs.length i).bind fun j => (xs[j]?).map fun y => (y, xs.eraseIdx j) else none).1
theorem popI_eq {α : Type} (xs : List α) (i : Int) : popI xs i = if -(2 ^ 63) ≤ i ∧ i < 2 ^ 63 then (ixN xs.length i).bind fun j => (xs[j]?).map fun y => (y, xs.eraseIdx j) else none := by unfold popI; rw [(Seal _).2]
theorem popI_nat {α : Type} {xs : List α} {j : Nat} {y : α} (h : xs[j]? = some y) (hl : j < 2 ^ 62) : popI xs (j : Int) = some (y, xs.eraseIdx j) := by
  rw [popI_eq, if_pos (by omega), ixN_nat (List.getElem?_eq_some_iff.mp h).1]
  show (xs[j]?).map _ = _
  rw [h]; rfl
noncomputable def mPopI (x : Var αs (List α)) (mi : M αs Int) : M αs α := fun s => (x.get s).bind fun _ => (mi s).bind fun p => (x.get p.2).bind fun xs => (popI xs p.1).bind fun q => some (q.1, x.set (some q.2) p.2)
theorem all2_eraseIdx {P : V → α → Prop} : ∀ {as : List V} {bs : List α} (i : Nat), All2 P as bs → All2 P (as.eraseIdx i) (bs.eraseIdx i)
  | [], [], _, h => h
  | _ :: _, _ :: _, 0, h => h.2
  | _ :: _, _ :: _, i + 1, h => ⟨h.1, all2_eraseIdx i h.2⟩
theorem XE.popI [Enc α] [PureE α] {x : Var αs (List α)} {i : Expr} {mi : M αs Int} (hpe : PE X (.Name n pn) (tVar x.idx)) (hx : Sub (x.rt Γ) (RT.own X.K α)) (hf : (x.rt Γ).fix = false) (hi : XE X Γ i (RT.dat X.K Int) mi)
    (hp : PE X (.Call (.Attribute (.Name n pn) "pop" apos) [i] [] cpos) (tBM X.K "list" rPopAt (tVar x.idx) (tCons (wE X i) tNil)) := by exact pe_bm PySem.F.plainAttrs_list PySem.F.slot_list_pop PySem.F.type_list_pop mt_popAt (pv _) (pa_cons pe_w pa_nil)) :
    XE X Γ (.Call (.Attribute (.Name n pn) "pop" apos) [i] [] cpos) (RT.dat X.K α) (mPopI x mi) := by
  intro C s σ G H o k z s' hm Q q
  obtain ⟨xs0, e0, hm⟩ := bindE hm
  obtain ⟨⟨j, s1⟩, e1, hm⟩ := bindE hm
  obtain ⟨xs, e2, hm⟩ := bindE hm
  obtain ⟨⟨y, ys⟩, e3, hm⟩ := bindE hm
  cases hm
  obtain ⟨p0, vs0, h0, _, h00, _, _⟩ := k.ownAt hx e0
  refine wE_of hp ⟨_, h0, .inl ⟨rfl, _, SqL.of h00⟩, ?_⟩
  refine hi C s σ G H o k j s1 e1 _ fun w G1 H1 o1 B k1 g1 kp1 r1 t1 => ?_
  obtain ⟨p, vs, h1, h2, h3, h4, h9⟩ := k1.ownAt hx e2
  rw [h0] at h1; cases h1
  cases dq_int r1
  rw [popI_eq] at e3
  obtain ⟨hb, e4⟩ : (-(2 ^ 63) ≤ j ∧ j < 2 ^ 63) ∧ _ := by
    by_cases hb : -(2 ^ 63) ≤ j ∧ j < 2 ^ 63
    · rw [if_pos hb] at e3; exact ⟨hb, e3⟩
    · rw [if_neg hb] at e3; cases e3
  obtain ⟨jn, e5, e6⟩ := bindE e4
  obtain ⟨y', e7, e8⟩ := Option.map_eq_some_iff.mp e6
  cases e8
  obtain ⟨v, h5, h6⟩ := h4.get e7
  obtain ⟨e9, _⟩ := ixN_seq e5
  refine ⟨p0, vs, j, jn, v, rfl, rfl, h3, hb.1, hb.2, by rw [h4.len]; exact e9, h5, ?_⟩
  refine q v G1 _ o1 (fun _ => False) (k1.mut x h0 h2 rfl (hx.of h9 ⟨p0, _, rfl, h2, upd_same, all2_eraseIdx jn h4⟩)) g1 (kp1.trans (Var.split x (fun h => ?_) fun β z hz _ => Var.get_ne x z _ _ hz)) h6 tmp0
  rw [hf] at h; cases h
instance {x : Var αs (List α)} {mi : M αs Int} [h : Mo mi] : Mo (mPopI x mi) := Mo.rd fun _ => Mo.bd (g := fun i s => (x.get s).bind fun xs => (Sm.popI xs i).bind fun q => some (q.1, x.set (some q.2) s)) h fun _ => Mo.rd fun _ => Mo.op fun _ => Mo.st
theorem SX.popI {ω : Type} {s : Env αs} {o : Option ω} {x : Var αs (List α)} {mi : M αs Int} {Φ : α → Env αs → Option ω → Prop} {z : List α} (h0 : x.get s = some z) (h : SX mi s o fun i s1 o1 => ∃ xs, x.get s1 = some xs ∧ ∃ k, o1 = (Sm.popI xs i).bind k ∧ ∀ q : α × List α, Φ q.1 (x.set (some q.2) s1) (k q)) : SX (mPopI x mi) s o Φ := fun w e => by
  obtain ⟨i, s1, o1, h1, ⟨xs, h2, k, rfl, h3⟩, h4⟩ := h w e
  obtain ⟨q, e1, e2⟩ := bindE h4
  refine ⟨q.1, x.set (some q.2) s1, k q, ?_, h3 q, e2⟩
  unfold mPopI
  rw [h0]
  show (mi s).bind _ = _
  rw [h1]
  show (x.get s1).bind _ = _
  rw [h2]
  show (Sm.popI xs i).bind _ = _
  rw [e1]; rfl
/-! ### list(range(n)) -/
noncomputable def lrng : Int → Option (List Int) := (Seal fun (n : Int) => if n ≤ 16777216 ∧ -(2 ^ 62) ≤ n then some ((List.range n.toNat).map fun (i : Nat) => (i : Int)) else none).1
theorem lrng_eq (n : Int) : lrng n = if n ≤ 16777216 ∧ -(2 ^ 62) ≤ n then some ((List.range n.toNat).map fun (i : Nat) => (i : Int)) else none := by unfold lrng; rw [(Seal _).2]
theorem lrng_ok {n : Int} (h : n ≤ 16777216 ∧ -(2 ^ 62) ≤ n) : lrng n = some ((List.range n.toNat).map fun (i : Nat) => (i : Int)) := by rw [lrng_eq, if_pos h]
theorem dq_intl {K : Fr} {G : Hp} : ∀ xs : List Int, All2 (fun v x => Dq K G v (enc x)) (xs.map V.int) xs
  | [] => trivial
  | x :: xs => ⟨.int x, dq_intl xs⟩
theorem XE.lrng {ma : M αs Int} {p2 pos2 : Pos} (hc : X.calm = true) (hg : Gl X "list") (hm : X.mg "list" = none) (hg2 : Gl X "range") (hm2 : X.mg "range" = none) (ha : XE X Γ a (RT.dat X.K Int) ma)
    (he : starEach [a] X.env = (false, eval a X.env) :: starEach [] X.env := by rfl)
    (he2 : starEach [.Call (.Name "range" p2) [a] [] pos2] X.env = (false, eval (.Call (.Name "range" p2) [a] [] pos2) X.env) :: starEach [] X.env := by rfl) : XE X Γ (.Call (.Name "list" p) [.Call (.Name "range" p2) [a] [] pos2] [] pos) (RT.own X.K Int) (m1 lrng ma) := by
  intro C s σ G H o k z s' hm' Q q
  obtain ⟨n, h1, h2⟩ := m1E hm'
  rw [lrng_eq] at h2
  obtain ⟨hb, rfl⟩ := ite_some h2
  refine wE_of (pe_listRg hc hg hm (prg_1 hg2 hm2 pe_w he) he2) ?_
  refine ha C s σ G H o k n s' h1 _ fun v G1 H1 o1 B k1 g1 kp r1 t1 => ?_
  cases dq_int r1
  refine ⟨n, rfl, ⟨by decide, by decide, hb.2, by omega, by omega⟩, fun l hl => ?_⟩
  have er : rgV 0 n = ((List.range n.toNat).map fun (i : Nat) => (i : Int)).map V.int := by
    unfold rgV
    rw [List.map_map]
    simp
  have nb : NewB G1 H1 G1 (upd H1 l (.lst (rgV 0 n))) (fun a => a = l) := fun a ha => by
    subst ha
    refine ⟨hl, ?_, _, upd_same, rfl⟩
    cases h : G1 a with
    | none => rfl
    | some u => rw [k1.gh a u h] at hl; cases hl
  refine q (.ref l) G1 _ o1 (fun a => a = l) (k1.al (Al.my k1.gh hl)) g1 kp ⟨l, _, rfl, rfl, upd_same, ?_⟩ (nb.tmp k1)
  rw [er]
  exact dq_intl _
end
end Sm
/-! S22: objects without attributes: the two rules. -/
namespace Sm
open PySem PySem.Spec L2
open Enc (enc)
inductive RuleD where
  | near | both
  deriving DecidableEq
def RuleD.nm : RuleD → Str
  | .near => "Nearest"
  | .both => "Both"
/-- what a class without attributes and without __init__ must have -/
structure RuC (K : Fr) (mg : Str → Option Value) (x : Str) (C : Addr) : Prop where
  makes : PySem.W.makesIn K C = true
  init : PySem.W.findIn K (.ref C) "__init__" = some (some (.builtin "object.__init__"))
  keep : PySem.W.keepIn K (.ref C) = true
  gl : mg x = some (.ref C)
  cl : Cls K C
  ha : PySem.W.findIn K (.ref C) "__class__" = some (some (.builtin "object.__class__"))
  hn : PySem.W.specialIn K (.builtin "object.__class__") "__get__" = some (some (.builtin "getset_descriptor.__get__"))
  htk : PySem.W.takesIn K (.builtin "object.__class__") = some true
  hm : PySem.W.mroIn K C (.type "object") = some true
structure RuA (K : Fr) (mg : Str → Option Value) (cls : RuleD → Option Addr) : Prop where
  c : ∀ x C, cls x = some C → RuC K mg x.nm C
  i : ∀ x C D, cls x = some D → cls .near = some C → PySem.W.kitOne K (.ref D) (.ref C) = some (decide (x = .near))
theorem kit_self (K : Fr) (C : Addr) : PySem.W.kitOne K (.ref C) (.ref C) = some true := by
  unfold PySem.W.kitOne
  rw [if_pos (by simp)]
theorem kit_sub {K : Fr} {C D : Addr} {cv : _} {b : Bool} (ne : (Value.ref D == Value.ref C) = false) (h1 : PySem.W.clsIn K C = some cv) (h2 : PySem.W.typeIn K (.ref C) = some (.type "type")) (h3 : PySem.W.subIn K (.ref D) (.ref C) = some b) : PySem.W.kitOne K (.ref D) (.ref C) = some b := by
  unfold PySem.W.kitOne PySem.W.kitCls
  rw [if_neg (by rw [ne]; decide)]
  show (if _ then _ else _) = _
  rw [if_pos (by rw [h1, h2]; rfl), h3]
def RT.rule (K : Fr) (cls : RuleD → Option Addr) : RT K RuleD where
  rel := fun G _ v x _ => ∃ p dx C, v = .ref p ∧ cls x = some C ∧ G p = some (.ins C dx [])
  shr := fun G v x => ∃ p dx C, v = .ref p ∧ cls x = some C ∧ G p = some (.ins C dx [])
  fix := true
  grow := fun ⟨p, dx, C, e, c, h⟩ g _ => ⟨p, dx, C, e, c, g _ _ h⟩
  view := fun ⟨p, dx, C, e, c, h⟩ g _ => ⟨p, dx, C, e, c, g _ _ h⟩
  smono := fun ⟨p, dx, C, e, c, h⟩ g => ⟨p, dx, C, e, c, g _ _ h⟩
  wid := fun h _ => h
  ok := .inl ⟨rfl, fun _ _ _ _ _ => Iff.rfl⟩
section
variable {X : Cx}
theorem pe_mk00 {x : Str} {C : Addr} {p pos : Pos} (R : RuC X.K X.mg x C) (hg : Gl X x) (hdb : (x == ("__debug__" : Str)) = false := by decide) : PE X (.Call (.Name x p) [] [] pos) (fun σ H Q => ∀ a dx, H a = none → H dx = none → dx ≠ a → Q (.ref a) (upd (upd H dx (.own a)) a (.ins C dx []))) := by
  refine ⟨fun pins s σ H Q I h => ?_⟩
  refine wpAny_Call_Name_kw (ld_glob I hg R.gl ?_ hdb)
  have hq := h (s.heap.objs.size + 1) s.heap.objs.size (I.hok.fresh (Nat.le_succ _)) (I.hok.fresh (Nat.le_refl _)) (Nat.ne_of_lt (Nat.lt_succ_self _))
  have I2 := Inv.made (C := C) I
  refine PySem.W.callWith_K0 I.kIn R.keep (wpAny_call ?_)
  have X1 := I.kIn
  have fin : EP X pins σ Q (Value.ref (s.heap.objs.size + 1)) { s with heap := (s.heap.push PySem.W.emptyDict).push (PySem.W.instObj C s.heap.objs.size) } := ⟨V.ref (s.heap.objs.size + 1), _, I2, rfl, hq⟩
  have ho : ((s.heap.push PySem.W.emptyDict).push (PySem.W.instObj C s.heap.objs.size)).get? (s.heap.objs.size + 1) = some (PySem.W.instObj C s.heap.objs.size) := by
    have := Heap.get?_push_size (s.heap.push PySem.W.emptyDict) (o := PySem.W.instObj C s.heap.objs.size) rfl
    rwa [Heap.size_push] at this
  clear hq I2 h
  obtain ⟨hh, g, d, t, os⟩ := s
  have Y := PySem.W.makes_of (M := model X.prog X.w) X1 R.makes
  refine PySem.W.make_core Y (PySem.W.looks_findIn X1 R.init) (fun self => PySem.W.Looks.of_pure (PySem.W.oi_bind self)) (.inr ⟨rfl, rfl⟩) ?_
  have t1 : PySem.W.Looks (model X.prog X.w) ((hh.push PySem.W.emptyDict).push (PySem.W.instObj C hh.objs.size)) (typeOf (.ref (hh.objs.size + 1))) (.ref C) := (PySem.W.Looks.ld ho).andThen .now
  have t2 : PySem.W.Looks (model X.prog X.w) ((hh.push PySem.W.emptyDict).push (PySem.W.instObj C hh.objs.size)) (isInstance (.ref (hh.objs.size + 1)) (.type "object")) true := t1.andThen (Y.top.keeps fun b o e => Heap.get?_push_of_some _ (Heap.get?_push_of_some _ e))
  refine codeAny_call_builtin PySem.W.oi_plain PySem.W.entry_oi (@PySem.W.check_slot (model X.prog X.w) _ _ _ "object.__init__" "object" "__init__" (.ref (hh.objs.size + 1)) [] [] _ PySem.W.oi_kind PySem.W.oi_split t2 (PySem.W.oi_args (.ref (hh.objs.size + 1))) ?_)
  show wpAny _ _ (Builtin.«object.__init__» ⟨[.ref (hh.objs.size + 1)], []⟩) _ _ _
  rw [PySem.W.oi_run]
  exact wpAny_pure (And.intro rfl fin)
variable {αs : List Type} {Γ : RTs X.K αs} {a : Expr} {pos p p2 : Pos}
/-- Nearest(), Both() -/
theorem XE.mkRule {cls : RuleD → Option Addr} (d : RuleD) {C : Addr} (R : RuA X.K X.mg cls) (hc : cls d = some C) (hg : Gl X d.nm) (hdb : (d.nm == ("__debug__" : Str)) = false := by decide) : XE X Γ (.Call (.Name d.nm p) [] [] pos) (RT.rule X.K cls) (mC d) :=
  .leaf (pe_mk00 (R.c d C hc) hg hdb) fun σ G H Q e q a dx ha hdx hne => by
    have hda : (upd H dx (.own a)) a = none := by rw [upd_ne hne.symm]; exact ha
    have al : Al G H (upd G a (.ins C dx [])) (upd (upd H dx (.own a)) a (.ins C dx [])) := (Al.my e (p := dx) (o := .own a) hdx).trans (Al.kn (e.trans (Ex.new hdx)) hda)
    exact q (.ref a) (upd G a (.ins C dx [])) _ (fun _ => False) al ⟨a, dx, C, rfl, hc, upd_same⟩ newB0
def isNear (x : RuleD) : Option Bool := some (decide (x = .near))
theorem XE.isNear {cls : RuleD → Option Addr} {C : Addr} {ma : M αs RuleD} (R : RuA X.K X.mg cls) (hc : cls .near = some C) (hg : Gl X "isinstance") (hm : X.mg "isinstance" = none) (hg2 : Gl X "Nearest") (ha : XE X Γ a (RT.rule X.K cls) ma)
    (hd : (("Nearest" : Str) == ("__debug__" : Str)) = false := by decide) (he : starEach [a, .Name "Nearest" p2] X.env = [(false, eval a X.env), (false, eval (.Name "Nearest" p2) X.env)] := by rfl) (he2 : starEach [.Name "Nearest" p2] X.env = [(false, eval (.Name "Nearest" p2) X.env)] := by rfl) :
    XE X Γ (.Call (.Name "isinstance" p) [a, .Name "Nearest" p2] [] pos) (RT.dat X.K Bool) (m1 Sm.isNear ma) :=
  .un (r := fun v H Q => rIsi X.K [v, .ref C] H Q) (pe_callB call_isi hg hm (by decide +kernel) (pa_cons pe_w (pa_cons (pe_glob (v := .ref C) hg2 (R.c .near C hc).gl rfl hd) pa_nil he2) (by rw [he, he2])) (he := by rw [he, he2]) (hpl := by rw [he2]; rfl)) ha rfl fun G H v x z Q e hx hz q => by
    cases hz
    obtain ⟨q0, dx, D, rfl, hD, hG⟩ := hx
    have RD := R.c x D hD
    refine ⟨.ref q0, .ref C, .ref D, .ref C, decide (x = .near), rfl, .own C, .base (.ins (e _ _ hG) RD.cl RD.ha RD.hn RD.htk RD.hm), R.i x C D hD hc, here (z := decide (x = RuleD.near)) e (.bl _) q⟩
end
end Sm
/-! S23: pairs of a list of one's own and plain data. -/
namespace Sm
open PySem PySem.Spec L2
open Enc (enc)
section
variable {K : Fr} {α β : Type}
def RT.pairO (K : Fr) (α β : Type) [Enc α] [PureE α] [Enc β] [PureE β] : RT K (List α × β) where
  rel := fun G H v x A => ∃ t a b, v = .ref t ∧ SqT K G t [a, b] ∧ (RT.own K α).rel G H a x.1 A ∧ Dq K G b (enc x.2)
  shr := fun G v x => Dq K G v (enc x)
  fix := false
  grow := fun ⟨t, a, b, e, h, r, d⟩ g f => ⟨t, a, b, e, g.t h, (RT.own K α).grow r g f, dq_mono g d⟩
  view := fun {_ _ _ _ x _} ⟨t, a, b, e, h, r, d⟩ g f => by
    subst e
    exact (show Dq K _ (.ref t) (.tuple [enc x.1, enc x.2]) from .tup (g.t h) (.cons ((RT.own K α).view r g f) (.cons (dq_mono g d) .nil)))
  smono := fun h e => dq_mono e h
  wid := fun ⟨t, a, b, e, h, r, d⟩ f => ⟨t, a, b, e, h, (RT.own K α).wid r f, d⟩
  ok := .inr ⟨rfl, fun G G' H v x A ⟨t, a, b, e, h, r, d⟩ f => ⟨t, a, b, e, f.t h, lin_of (R := RT.own K α) rfl _ _ _ _ _ _ r f, dq_pure f (PureE.pu x.2) d⟩⟩
end
section
variable {X : Cx} {αs : List Type} {Γ Γ1 Γ2 Γ' Γt : RTs X.K αs} {α β γ ρ : Type} {e e2 a b c : Expr} {es : List Expr} {pos p pn apos cpos p1 p2 : Pos} {n n' : Str} {P : Pk X.K αs ρ}
/-- seen as plain data from now on -/
theorem XE.datPO [Enc α] [PureE α] [Enc β] [PureE β] {m : M αs (List α × β)} (h : XE X Γ e (RT.pairO X.K α β) m) : XE X Γ e (RT.dat X.K (List α × β)) m := by
  intro C s σ G H o k z s' hm Q q
  exact XE.freeze h C s σ G H o k z s' hm Q fun v G1 H1 o1 B k1 g1 kp r t => q v G1 H1 o1 B k1 g1 kp r t
/-- (own, data): both made here -/
theorem XE.pairO [Enc α] [PureE α] [Enc β] [PureE β] {ma : M αs (List α)} {mb : M αs β} {k : Nat} (ha : XE X Γ a (RT.own X.K α) ma) (hb : XE X Γ b (RT.dat X.K β) mb) (hp : PA X [a, b] (tCons (wE X a) (tCons (wE X b) tNil)) := by exact pa_cons pe_w (pa_cons pe_w pa_nil)) : XE X Γ (.Tuple [a, b] k pos) (RT.pairO X.K α β) (m2 Sm.pair ma mb) := by
  intro C s σ G H o k0 z s' hm Q q
  obtain ⟨x, s1, y, h1, h2, h3⟩ := m2E hm
  cases h3
  refine wE_of (pe_tup hp) ?_
  refine two ha hb C s σ G H o k0 x s1 y s' h1 h2 fun v u G1 H1 o1 B B' k1 g1 kp r1 r2 t1 t2 _ => ?_
  refine ⟨by show 2 ≤ sizeLine; decide, fun p hp => ?_⟩
  have al := Al.kn k1.gh (o := .tup [v, u]) hp
  have pB : ∀ a, B a → a ≠ p := fun a ha e => by
    obtain ⟨_, _, ⟨ob, h, _⟩, _⟩ := t1 a ha
    rw [e, hp] at h; cases h
  refine q _ _ _ o1 B (k1.al al) (g1.trans al.g) kp ⟨p, v, u, rfl, SqT.of upd_same, (RT.own X.K α).grow r1 al.g fun a ha => by rw [upd_ne (pB a ha)], dq_mono al.g r2⟩ fun a ha => ?_
  obtain ⟨h1, h2, ⟨ob, h3, h4⟩, h5⟩ := t1 a ha
  exact ⟨h1, by rw [upd_ne (pB a ha)]; exact h2, ⟨ob, by rw [upd_ne (pB a ha)]; exact h3, h4⟩, h5⟩
/-- a slot is given up: what it owned is free -/
theorem Ok.kill {C : C0} {s : Env αs} {σ : L2.St} {G H : Hp} {o : Addr → Option Nat} (k : Ok C Γ s σ G H o) (x : Var αs α) (s2 : Env αs) (h2 : ∀ (β : Type) (y : Var αs β), y.idx ≠ x.idx → y.get s2 = y.get s) (hx : x.get s2 = none ∨ x.get s2 = x.get s) :
    Ok C (x.setR (RT.dead _ _) Γ) s2 σ G H (fun a => if o a = some x.idx then none else o a) ∧ ∀ B : Addr → Prop, (∀ a, B a → o a = some x.idx) → Tmp C B G H (fun a => if o a = some x.idx then none else o a) := by
  refine ⟨⟨k.g, k.gh, k.new, k.fr, k.dom, k.imm, fun a ha => ?_, k.len, Var.split x (fun z hz => ?_) fun β z hz u hu => ?_⟩, fun B hB a ha => ?_⟩
  · by_cases h : o a = some x.idx
    · simp [h] at ha
    · simp only [h, if_false] at ha; exact k.own a ha
  · rcases hx with hx | hx
    · rw [hx] at hz; cases hz
    · rw [hx] at hz
      obtain ⟨v', e', _⟩ := k.sl _ x z hz
      exact ⟨v', e', by rw [Var.rt_set]; exact trivial⟩
  · rw [h2 β z hz] at hu
    obtain ⟨v', e', r'⟩ := k.sl β z u hu
    refine ⟨v', e', ?_⟩
    rw [Var.rt_ne x z _ _ hz]
    refine (z.rt Γ).wid r' fun a ha => ?_
    have ha' : o a = some z.idx := ha
    show (if o a = some x.idx then none else o a) = some z.idx
    rw [if_neg (by rw [ha']; exact fun e => hz (Option.some.inj e))]; exact ha'
  · have ha' := hB a ha
    obtain ⟨h1, h2, h3⟩ := k.own a (by rw [ha']; simp)
    exact ⟨by simp [ha'], h1, h2, h3⟩
theorem Ok.kill0 {C : C0} {s : Env αs} {σ : L2.St} {G H : Hp} {o : Addr → Option Nat} (k : Ok C Γ s σ G H o) (x : Var αs α) :
    Ok C Γ (x.set none s) σ G H (fun a => if o a = some x.idx then none else o a) ∧ ∀ B : Addr → Prop, (∀ a, B a → o a = some x.idx) → Tmp C B G H (fun a => if o a = some x.idx then none else o a) := by
  obtain ⟨k2, t⟩ := k.kill x (x.set none s) (fun β w hw => Var.get_ne x w _ _ hw) (.inl (x.get_set _ _))
  refine ⟨⟨k2.g, k2.gh, k2.new, k2.fr, k2.dom, k2.imm, k2.own, k2.len, Var.split x (fun z hz => ?_) fun β z hz u hu => ?_⟩, t⟩
  · rw [x.get_set] at hz; cases hz
  · obtain ⟨v, h1, h2⟩ := k2.sl β z u hu
    rw [Var.rt_ne x z _ _ hz] at h2
    exact ⟨v, h1, h2⟩
/-- return (x, y): x's list handed out -/
theorem XS.retPO [Enc α] [PureE α] [Enc β] [PureE β] {P : Pk X.K αs (List α × β)} {x : Var αs (List α)} {y : Var αs β} {kk : Nat} {q1 q2 : Pos} (hpe : PE X (.Name n q1) (tVar x.idx)) (hpe2 : PE X (.Name n' q2) (tVar y.idx)) (hr : x.rt Γ = RT.own X.K α) (hy : y.rt Γ = RT.dat X.K β) (hR : P.R = RT.pairO X.K α β) (w : Wk (x.setR (RT.dead _ _) Γ) P.Γr)
    (hp : PA X [.Name n q1, .Name n' q2] (tCons (wE X (.Name n q1)) (tCons (wE X (.Name n' q2)) tNil)) := by exact pa_cons pe_w (pa_cons pe_w pa_nil)) : XS X P Γ Γ1 (.Return (some (.Tuple [.Name n q1, .Name n' q2] kk p)) pos) (sRet (m2 Sm.pair (mV x) (mV y))) := by
  intro C s σ G H o k c s' hm D f
  obtain ⟨⟨z, s1⟩, e1, e2⟩ := bindE hm
  cases e2
  obtain ⟨g, s2, u, h1, h2, h3⟩ := m2E e1
  cases h3
  obtain ⟨g', h4, h5⟩ := bindE h1
  cases h5
  obtain ⟨u', h6, h7⟩ := bindE h2
  cases h7
  obtain ⟨v, e, r⟩ := k.sl _ x g h4
  obtain ⟨vu, e', r'⟩ := k.sl _ y u h6
  rw [hr] at r
  rw [hy] at r'
  refine wS_of (ps_ret (pe_tup hp)) ?_
  refine wE_of hpe ⟨v, e, ?_⟩
  refine wE_of hpe2 ⟨vu, e', ?_⟩
  refine ⟨by show 2 ≤ sizeLine; decide, fun q hq => ?_⟩
  have al := Al.kn k.gh (o := .tup [v, vu]) hq
  obtain ⟨k2, tB⟩ := (k.al al).kill x s (fun _ _ _ => rfl) (.inr rfl)
  refine f σ (.ref q) _ _ _ (fun a => o a = some x.idx) (k2.weak w) ?_ (tB _ fun _ h => h)
  rw [hR]
  refine ⟨q, v, vu, rfl, SqT.of upd_same, (RT.own X.K α).grow r al.g fun a ha => ?_, dq_mono al.g r'⟩
  obtain ⟨_, ⟨ob, h, _⟩, _⟩ := k.own a (by rw [show o a = some x.idx from ha]; simp)
  rw [upd_ne (fun z => by rw [z, hq] at h; cases h)]
/-- y = x[0]: the list moves -/
def sMv (y : Var αs (List α)) (x : Var αs (List α × β)) : MS αs ρ := fun s => (x.get s).bind fun p => some (.nx, y.set (some p.1) (x.set none s))
theorem XS.mv [Enc α] [PureE α] [Enc β] [PureE β] {x : Var αs (List α × β)} {y : Var αs (List α)} {j} {q0 q1 q2 q3 : Pos} (hpe : PE X (.Name n q0) (tVar x.idx)) (hr : x.rt Γ = RT.pairO X.K α β) (hne : y.idx ≠ x.idx) (hN : X.N.Nodup) (hi : X.N[y.idx]? = some n') (hx : Loc X.env.scope n')
    (hs : swapsWith (.Subscript (.Name n q0) (.Constant (.int 0) j q1) q2) (some (.Name n' q3)) pos.line X.env = pure false := by rfl) (hf : X.fn n' = true ∨ X.env.scope.names.lookup n' = some .local := by first | exact .inl rfl | exact .inr rfl)
    (hp : PE X (.Subscript (.Name n q0) (.Constant (.int 0) j q1) q2) (fun σ H Q => wE X (.Name n q0) σ H fun v H1 => rIxT X.K v (.int 0) H1 Q) := by exact pe_ix ix_tup pe_w pe_int fun _ _ => rfl) :
    XS X P Γ (y.setR (RT.own X.K α) Γ) (.Assign [.Name n' q3] (.Subscript (.Name n q0) (.Constant (.int 0) j q1) q2) pos) (sMv y x) := by
  intro C s σ G H o k c s' hm D f
  obtain ⟨z, e1, e2⟩ := bindE hm
  cases e2
  obtain ⟨v, e, r⟩ := k.sl _ x z e1
  rw [hr] at r
  obtain ⟨t, a, b, rfl, h1, h2, h3⟩ := r
  refine wS_of (ps_set hN hi hx hp hs hf) ?_
  refine wE_of hpe ⟨.ref t, e, ?_⟩
  refine ⟨t, [a, b], 0, a, rfl, rfl, k.gh.t h1, rfl, ?_⟩
  obtain ⟨k2, tB⟩ := k.kill0 x
  obtain ⟨o3, k3⟩ := k2.set y (RT.own X.K α) (v := a) (y := z.1) (B := fun a => o a = some x.idx) h2 (tB _ fun _ h => h)
  exact f _ G H o3 k3
/-- a, b = e: e a pair, its list one's own -/
theorem XS.asgPO [Enc α] [PureE α] [Enc β] [PureE β] {x : Var αs (List α)} {y : Var αs β} {m : M αs (List α × β)} {q1 q2 : Pos} {kk : Nat} (hc : X.calm = true) (he : XE X Γ e (RT.pairO X.K α β) m) (hN : X.N.Nodup) (hi : X.N[x.idx]? = some n) (hx : Loc X.env.scope n) (hj : X.N[y.idx]? = some n') (hy : Loc X.env.scope n') (hne : x.idx ≠ y.idx)
    (hf : X.fn n = true ∨ X.env.scope.names.lookup n = some .local := by first | exact .inl rfl | exact .inr rfl) (hf' : X.fn n' = true ∨ X.env.scope.names.lookup n' = some .local := by first | exact .inl rfl | exact .inr rfl)
    (hs : swapsWithSole [.Tuple [.Name n q1, .Name n' q2] kk p] e pos.line X.env = pure false := by rfl) (hw : swappedStores [.Tuple [.Name n q1, .Name n' q2] kk p] e X.env = pure none := by rfl) (h1 : (assignEach [.Tuple [.Name n q1, .Name n' q2] kk p] X.env).map (·.2) = [assign (.Tuple [.Name n q1, .Name n' q2] kk p) X.env] := by rfl) :
    XS X P Γ (y.setR (RT.dat X.K β) (x.setR (RT.own X.K α) Γ)) (.Assign [.Tuple [.Name n q1, .Name n' q2] kk p] e pos) (sAsgG (fun (z : List α × β) s => y.set (some z.2) (x.set (some z.1) s)) m) := by
  intro C s σ G H o k c s' hm D f
  obtain ⟨⟨z, s1⟩, e1, e2⟩ := bindE hm
  cases e2
  refine wS_of (ps_asg pe_w pg_w hs hw h1) ?_
  refine he C s σ G H o k z s1 e1 _ fun w G1 H1 o1 B k1 g1 kp1 r1 t1 => ?_
  obtain ⟨t, a, b, rfl, h2, h3, h4⟩ := r1
  obtain ⟨o2, k2⟩ := k1.set x (RT.own X.K α) (v := a) (y := z.1) (B := B) h3 t1
  obtain ⟨o3, k3⟩ := k2.set y (RT.dat X.K β) (v := b) (y := z.2) (B := fun _ => False) h4 fun _ h => h.elim
  refine wG_of (pg_tup hc (pgs_cons (pg_name hN hi hx hf) (pgs_cons (pg_name hN hj hy hf') pgs_nil))) ?_
  exact ⟨t, [a, b], rfl, k1.gh.t h2, rfl, a, [b], rfl, b, [], rfl, rfl, f _ G1 H1 o3 k3⟩
/-- e[0] of a pair made here -/
theorem XE.fstPO [Enc α] [PureE α] [Enc β] [PureE β] {m : M αs (List α × β)} {j} {p2 : Pos} (ha : XE X Γ a (RT.pairO X.K α β) m)
    (hp : PE X (.Subscript a (.Constant (.int 0) j p2) pos) (fun σ H Q => wE X a σ H fun v H1 => rIxT X.K v (.int 0) H1 Q) := by exact pe_ix ix_tup pe_w pe_int fun _ _ => rfl) : XE X Γ (.Subscript a (.Constant (.int 0) j p2) pos) (RT.own X.K α) (m1 fst' m) := by
  intro C s σ G H o k z s' hm Q q
  obtain ⟨y, h1, h2⟩ := m1E hm
  cases h2
  refine wE_of hp ?_
  refine ha C s σ G H o k y s' h1 _ fun v G1 H1 o1 B k1 g1 kp r t => ?_
  obtain ⟨t', a', b', rfl, h3, h4, h5⟩ := r
  exact ⟨t', [a', b'], 0, a', rfl, rfl, k1.gh.t h3, rfl, q a' G1 H1 o1 B k1 g1 kp h4 t⟩
end
section
variable {αs : List Type} {α β ρ ω : Type} {s : Env αs} {o : Option ω} {Ψ : Ctl ρ → Env αs → Option ω → Prop}
instance {y : Var αs (List α)} {x : Var αs (List α × β)} : Mo (sMv y x : MS αs ρ) := Mo.rd fun p => ⟨fun l e => by cases e; exact ⟨_, rfl, Le.set y _ (Le.set x _ l)⟩⟩
theorem SX.mv {y : Var αs (List α)} {x : Var αs (List α × β)} {p : List α × β} (h0 : x.get s = some p) (h : Ψ .nx (y.set (some p.1) (x.set none s)) o) : SX (sMv y x : MS αs ρ) s o Ψ := fun w e => ⟨.nx, _, o, by unfold sMv; rw [h0]; rfl, h, e⟩
end
end Sm
/-! S24: min and max of a list of integers. -/
namespace Sm
open PySem PySem.Spec L2
open Enc (enc)
def leastI : List Int → Option Int
  | [] => none
  | x :: xs => some (xs.foldl (fun a b => if b < a then b else a) x)
def mostI : List Int → Option Int
  | [] => none
  | x :: xs => some (xs.foldl (fun a b => if a < b then b else a) x)
theorem foldl_least : ∀ (xs : List Int) (x : Int), (xs.foldl (fun a b => if b < a then b else a) x = x ∨ xs.foldl (fun a b => if b < a then b else a) x ∈ xs) ∧ xs.foldl (fun a b => if b < a then b else a) x ≤ x ∧ ∀ y ∈ xs, xs.foldl (fun a b => if b < a then b else a) x ≤ y
  | [], x => ⟨.inl rfl, Int.le_refl _, by simp⟩
  | z :: zs, x => by
    obtain ⟨h1, h2, h3⟩ := foldl_least zs (if z < x then z else x)
    rw [List.foldl_cons]
    generalize zs.foldl (fun a b => if b < a then b else a) (if z < x then z else x) = m at h1 h2 h3
    by_cases h : z < x
    · rw [if_pos h] at h1 h2
      refine ⟨.inr ?_, by omega, fun y hy => ?_⟩
      · rcases h1 with h1 | h1
        · rw [h1]; exact List.mem_cons_self
        · exact List.mem_cons_of_mem _ h1
      · rcases List.mem_cons.mp hy with rfl | hy
        · exact h2
        · exact h3 y hy
    · rw [if_neg h] at h1 h2
      refine ⟨?_, h2, fun y hy => ?_⟩
      · rcases h1 with h1 | h1
        · exact .inl h1
        · exact .inr (List.mem_cons_of_mem _ h1)
      · rcases List.mem_cons.mp hy with rfl | hy
        · omega
        · exact h3 y hy
theorem leastI_spec {xs : List Int} {m : Int} (h : leastI xs = some m) : m ∈ xs ∧ ∀ y ∈ xs, m ≤ y := by
  cases xs with
  | nil => cases h
  | cons x xs =>
    cases h
    obtain ⟨h1, h2, h3⟩ := foldl_least xs x
    refine ⟨?_, fun y hy => ?_⟩
    · rcases h1 with h1 | h1
      · rw [h1]; exact List.mem_cons_self
      · exact List.mem_cons_of_mem _ h1
    · rcases List.mem_cons.mp hy with rfl | hy
      · exact h2
      · exact h3 y hy
theorem leastI_of {xs : List Int} {m : Int} (h : m ∈ xs) (k : ∀ y ∈ xs, m ≤ y) : leastI xs = some m := by
  cases xs with
  | nil => simp at h
  | cons x xs =>
    obtain ⟨h1, h2⟩ := leastI_spec (xs := x :: xs) rfl
    have e1 := h2 m h
    have e2 := k _ h1
    show some _ = some _
    congr 1
    omega
theorem foldl_neg : ∀ (xs : List Int) (x : Int), xs.foldl (fun a b => if a < b then b else a) x = -((xs.map fun y => -y).foldl (fun a b => if b < a then b else a) (-x))
  | [], x => by show x = -(-x); omega
  | z :: zs, x => by
    rw [List.foldl_cons, List.map_cons, List.foldl_cons, foldl_neg zs]
    congr 1
    by_cases h : x < z
    · rw [if_pos h, if_pos (by omega)]
    · rw [if_neg h, if_neg (by omega)]
theorem mostI_spec {xs : List Int} {m : Int} (h : mostI xs = some m) : m ∈ xs ∧ ∀ y ∈ xs, y ≤ m := by
  cases xs with
  | nil => cases h
  | cons x xs =>
    cases h
    rw [foldl_neg]
    obtain ⟨h1, h2⟩ := leastI_spec (xs := (-x) :: xs.map fun y => -y) rfl
    generalize (xs.map fun y => -y).foldl (fun a b => if b < a then b else a) (-x) = m at h1 h2
    refine ⟨?_, fun y hy => ?_⟩
    · rcases List.mem_cons.mp h1 with h1 | h1
      · rw [h1, Int.neg_neg]; exact List.mem_cons_self
      · obtain ⟨z, hz, e⟩ := List.mem_map.mp h1
        rw [← e, Int.neg_neg]; exact List.mem_cons_of_mem _ hz
    · rcases List.mem_cons.mp hy with rfl | hy
      · have := h2 (-y) List.mem_cons_self; omega
      · have := h2 (-y) (List.mem_cons_of_mem _ (List.mem_map_of_mem hy)); omega
theorem mostI_of {xs : List Int} {m : Int} (h : m ∈ xs) (k : ∀ y ∈ xs, y ≤ m) : mostI xs = some m := by
  cases xs with
  | nil => simp at h
  | cons x xs =>
    obtain ⟨h1, h2⟩ := mostI_spec (xs := x :: xs) rfl
    have e1 := h2 m h
    have e2 := k _ h1
    show some _ = some _
    congr 1
    omega
noncomputable def minL : List Int → Option Int := (Seal leastI).1
noncomputable def maxL : List Int → Option Int := (Seal mostI).1
theorem minL_eq (xs : List Int) : minL xs = leastI xs := by unfold minL; rw [(Seal _).2]
theorem maxL_eq (xs : List Int) : maxL xs = mostI xs := by unfold maxL; rw [(Seal _).2]
theorem minL_of {xs : List Int} {m : Int} (h : m ∈ xs) (k : ∀ y ∈ xs, m ≤ y) : minL xs = some m := (minL_eq _).trans (leastI_of h k)
theorem maxL_of {xs : List Int} {m : Int} (h : m ∈ xs) (k : ∀ y ∈ xs, y ≤ m) : maxL xs = some m := (maxL_eq _).trans (mostI_of h k)
section
variable {X : Cx} {αs : List Type} {Γ : RTs X.K αs} {a : Expr} {pos p : Pos}
theorem ints_of {K : Fr} {G : Hp} : ∀ {vs : List V} {xs : List Int}, All2 (fun v x => Dq K G v (enc x)) vs xs → vs = xs.map V.int
  | [], [], _ => rfl
  | v :: vs, x :: xs, h => by rw [List.map_cons, ← ints_of h.2, dq_int h.1]
theorem XE.min1 {ma : M αs (List Int)} (hc : X.calm = true) (hg : Gl X "min") (hm : X.mg "min" = none) (ha : XE X Γ a (RT.dat X.K (List Int)) ma)
    (he : starEach [a] X.env = [(false, eval a X.env)] := by rfl) : XE X Γ (.Call (.Name "min" p) [a] [] pos) (RT.dat X.K Int) (m1 minL ma) :=
  .un (r := fun v H Q => rMin X.K [v] H Q) (pe_callB (cr_min hc) hg hm (by decide +kernel) (pa_cons pe_w pa_nil he) (he := he)) ha rfl fun G H v x z Q e hx hz q => by
    obtain ⟨p, vs, rfl, hp, k⟩ := dq_list hx
    rw [minL_eq] at hz
    obtain ⟨h1, h2⟩ := leastI_spec hz
    rw [ints_of k] at hp
    refine ⟨p, x, rfl, SqL.of (e _ _ hp), List.length_pos_of_mem h1, fun m h3 h4 => ?_⟩
    have e1 := h2 m h3
    have e2 := h4 z h1
    have : m = z := by omega
    subst this
    exact here (z := m) e (.int _) q
theorem XE.max1 {ma : M αs (List Int)} (hc : X.calm = true) (hg : Gl X "max") (hm : X.mg "max" = none) (ha : XE X Γ a (RT.dat X.K (List Int)) ma)
    (he : starEach [a] X.env = [(false, eval a X.env)] := by rfl) : XE X Γ (.Call (.Name "max" p) [a] [] pos) (RT.dat X.K Int) (m1 maxL ma) :=
  .un (r := fun v H Q => rMax X.K [v] H Q) (pe_callB (cr_max hc) hg hm (by decide +kernel) (pa_cons pe_w pa_nil he) (he := he)) ha rfl fun G H v x z Q e hx hz q => by
    obtain ⟨p, vs, rfl, hp, k⟩ := dq_list hx
    rw [maxL_eq] at hz
    obtain ⟨h1, h2⟩ := mostI_spec hz
    rw [ints_of k] at hp
    refine ⟨p, x, rfl, SqL.of (e _ _ hp), List.length_pos_of_mem h1, fun m h3 h4 => ?_⟩
    have e1 := h2 m h3
    have e2 := h4 z h1
    have : m = z := by omega
    subst this
    exact here (z := m) e (.int _) q
def imin3 (i j k : Int) : Option Int := some (if k < (if j < i then j else i) then k else (if j < i then j else i))
theorem min3_int (i j k : Int) : nuMin3 (.int i) (.int j) (.int k) = some (.int (if k < (if j < i then j else i) then k else (if j < i then j else i))) := by
  have h : ∀ a b : Int, nuMin2 (.int a) (.int b) = some (.int (if b < a then b else a)) := fun a b => by
    unfold nuMin2
    show (some (decide (b < a))).map _ = _
    by_cases h : b < a
    · rw [if_pos h, decide_eq_true h]; rfl
    · rw [if_neg h, decide_eq_false h]; rfl
  unfold nuMin3
  rw [h]
  show nuMin2 _ _ = _
  rw [h]
theorem XE.min3 {ma mb mc : M αs Int} {b c : Expr} (hc : X.calm = true) (hg : Gl X "min") (hm : X.mg "min" = none) (ha : XE X Γ a (RT.dat X.K Int) ma) (hb : XE X Γ b (RT.dat X.K Int) mb) (hd : XE X Γ c (RT.dat X.K Int) mc)
    (he : starEach [a, b, c] X.env = [(false, eval a X.env), (false, eval b X.env), (false, eval c X.env)] := by rfl) (he2 : starEach [b, c] X.env = [(false, eval b X.env), (false, eval c X.env)] := by rfl) (he3 : starEach [c] X.env = [(false, eval c X.env)] := by rfl) : XE X Γ (.Call (.Name "min" p) [a, b, c] [] pos) (RT.dat X.K Int) (m3 imin3 ma mb mc) :=
  .tri (r := fun v u w H Q => rNuC3 nuMin3 [v, u, w] H Q) (pe_callB (call_min3Nu hc) hg hm (by decide +kernel) (pa_cons pe_w (pa_cons pe_w (pa_cons pe_w pa_nil he3) (by rw [he2, he3])) (by rw [he, he2])) (he := by rw [he, he2])
    (hpl := by rw [he2]; rfl)) ha hb hd rfl rfl rfl fun G H v u w x y z t Q e hx hy hw hz q => by
    cases hz
    cases dq_int hx
    cases dq_int hy
    cases dq_int hw
    exact ⟨_, _, _, _, rfl, min3_int x y z, here (z := (if z < (if y < x then y else x) then z else (if y < x then y else x))) e (.int _) q⟩
end
end Sm
/-! P1: plain trees of roads, points, ways (no program in sight). -/
namespace Tw
abbrev Rds := List (Int × Int)
abbrev Pt := Nat × Nat
/-- good roads, of lengths up to L -/
def Vr (rs : Rds) (L : Int) : Prop := ∀ (k : Nat) (p l : Int), rs[k]? = some (p, l) → 0 ≤ p ∧ p ≤ k ∧ 1 ≤ l ∧ l ≤ L
def par (rs : Rds) (v : Nat) : Nat := if v = 0 then 0 else min ((rs.getD (v - 1) (0, 1)).1.toNat) (v - 1)
def len (rs : Rds) (v : Nat) : Nat := if v = 0 then 1 else max 1 ((rs.getD (v - 1) (0, 1)).2.toNat)
theorem par_lt {rs : Rds} {v : Nat} (h : v ≠ 0) : par rs v < v := by
  unfold par; rw [if_neg h]; omega
theorem par_le (rs : Rds) (v : Nat) : par rs v ≤ v := by
  by_cases h : v = 0
  · subst h; unfold par; rw [if_pos rfl]; exact Nat.le_refl 0
  · exact Nat.le_of_lt (par_lt h)
theorem len_pos (rs : Rds) (v : Nat) : 1 ≤ len rs v := by
  unfold len; by_cases h : v = 0
  · rw [if_pos h]; exact Nat.le_refl 1
  · rw [if_neg h]; omega
def ht (rs : Rds) (v : Nat) : Nat := if h : v = 0 then 0 else ht rs (par rs v) + len rs v
termination_by v
decreasing_by exact par_lt h
theorem ht_zero (rs : Rds) : ht rs 0 = 0 := by rw [ht]; simp
theorem ht_pos {rs : Rds} {v : Nat} (h : v ≠ 0) : ht rs v = ht rs (par rs v) + len rs v := by rw [ht]; simp [h]
theorem Vr.par_eq {rs : Rds} {L : Int} (V : Vr rs L) {k : Nat} {p l : Int} (h : rs[k]? = some (p, l)) : (par rs (k + 1) : Int) = p := by
  obtain ⟨h1, h2, _⟩ := V k p l h
  unfold Tw.par
  rw [if_neg (by omega), Nat.add_sub_cancel, List.getD_eq_getElem?_getD, h]
  simp only [Option.getD_some]
  omega
theorem Vr.len_eq {rs : Rds} {L : Int} (V : Vr rs L) {k : Nat} {p l : Int} (h : rs[k]? = some (p, l)) : (len rs (k + 1) : Int) = l := by
  obtain ⟨h1, h2, h3, h4⟩ := V k p l h
  unfold Tw.len
  rw [if_neg (by omega), Nat.add_sub_cancel, List.getD_eq_getElem?_getD, h]
  simp only [Option.getD_some]
  omega
theorem Vr.len_le {rs : Rds} {L : Nat} (V : Vr rs L) (hL : 1 ≤ L) (v : Nat) : Tw.len rs v ≤ L := by
  by_cases hv : v = 0
  · subst hv; unfold Tw.len; rw [if_pos rfl]; exact hL
  · unfold Tw.len
    rw [if_neg hv, List.getD_eq_getElem?_getD]
    cases h : rs[v - 1]? with
    | none => simp; omega
    | some x =>
      obtain ⟨p, l⟩ := x
      obtain ⟨_, _, h3, h4⟩ := V _ p l h
      simp only [Option.getD_some]
      omega
theorem Vr.ht_le {rs : Rds} {L : Nat} (V : Vr rs L) (hL : 1 ≤ L) (v : Nat) : ht rs v ≤ L * v := by
  induction v using Nat.strongRecOn with
  | _ v ih =>
    by_cases hv : v = 0
    · subst hv; rw [ht_zero]; omega
    · rw [ht_pos hv]
      have h1 := par_lt (rs := rs) hv
      have h2 := ih _ h1
      have h3 := V.len_le hL v
      have h4 : L * par rs v + L ≤ L * v := by
        have : L * (par rs v + 1) ≤ L * v := Nat.mul_le_mul_left L h1
        rw [Nat.mul_add] at this; omega
      omega

/-! ### points -/
/-- a point of the tree -/
def Vp (rs : Rds) (p : Pt) : Prop := p.1 ≤ rs.length ∧ p.2 < len rs p.1
def hp (rs : Rds) (p : Pt) : Nat := ht rs p.1 - p.2
/-- one step towards the root -/
def st (rs : Rds) (p : Pt) : Pt := if p.1 = 0 then (0, 0) else if p.2 + 1 = len rs p.1 then (par rs p.1, 0) else (p.1, p.2 + 1)
theorem Vp.zero {rs : Rds} {p : Pt} (h : Vp rs p) (h0 : p.1 = 0) : p = (0, 0) := by
  obtain ⟨v, u⟩ := p
  have h0' : v = 0 := h0
  subst h0'
  have := h.2
  unfold len at this
  rw [if_pos rfl] at this
  have hu : u = 0 := by omega
  rw [hu]
theorem hp_zero (rs : Rds) : hp rs (0, 0) = 0 := by unfold hp; show ht rs 0 - 0 = 0; rw [ht_zero]
theorem Vp.hp_pos {rs : Rds} {p : Pt} (h : Vp rs p) (h0 : p.1 ≠ 0) : 1 ≤ hp rs p := by
  have := h.2
  unfold hp
  rw [ht_pos h0]; omega
theorem Vp.le_ht {rs : Rds} {p : Pt} (h : Vp rs p) : p.2 ≤ ht rs p.1 := by
  by_cases h0 : p.1 = 0
  · rw [h.zero h0]; exact Nat.zero_le _
  · have := h.2
    rw [ht_pos h0]; omega
theorem Vp.st_ok {rs : Rds} {p : Pt} (h : Vp rs p) : Vp rs (st rs p) := by
  unfold Tw.st
  by_cases h0 : p.1 = 0
  · rw [if_pos h0]; exact ⟨Nat.zero_le _, len_pos _ _⟩
  · rw [if_neg h0]
    by_cases h1 : p.2 + 1 = len rs p.1
    · rw [if_pos h1]; exact ⟨Nat.le_trans (par_le _ _) h.1, len_pos _ _⟩
    · rw [if_neg h1]; exact ⟨h.1, by have := h.2; show p.2 + 1 < len rs p.1; omega⟩
theorem Vp.hp_st {rs : Rds} {p : Pt} (h : Vp rs p) (h0 : p.1 ≠ 0) : hp rs (Tw.st rs p) + 1 = hp rs p := by
  have h2 := h.2
  have h3 := ht_pos (rs := rs) h0
  unfold Tw.st
  rw [if_neg h0]
  by_cases h1 : p.2 + 1 = len rs p.1
  · rw [if_pos h1]; unfold hp; show ht rs (par rs p.1) - 0 + 1 = _; omega
  · rw [if_neg h1]; unfold hp; show ht rs p.1 - (p.2 + 1) + 1 = _; omega
theorem Vp.hp0 {rs : Rds} {p : Pt} (h : Vp rs p) (h0 : hp rs p = 0) : p = (0, 0) := by
  by_cases h1 : p.1 = 0
  · exact h.zero h1
  · have := h.hp_pos h1; omega
/-- k steps towards the root -/
def sts (rs : Rds) : Nat → Pt → Pt
  | 0, p => p
  | k + 1, p => sts rs k (st rs p)
theorem sts_add (rs : Rds) : ∀ (k m : Nat) (p : Pt), sts rs m (sts rs k p) = sts rs (k + m) p
  | 0, m, p => by rw [Nat.zero_add]; rfl
  | k + 1, m, p => by
    rw [show k + 1 + m = (k + m) + 1 by omega]
    exact sts_add rs k m (st rs p)
theorem sts_one (rs : Rds) (k : Nat) (p : Pt) : st rs (sts rs k p) = sts rs (k + 1) p := sts_add rs k 1 p
theorem Vp.sts_ok {rs : Rds} : ∀ {k : Nat} {p : Pt}, Vp rs p → Vp rs (sts rs k p)
  | 0, _, h => h
  | k + 1, p, h => (Vp.sts_ok (k := k) (p := Tw.st rs p) h.st_ok : Vp rs (Tw.sts rs k (Tw.st rs p)))
theorem Vp.hp_sts {rs : Rds} : ∀ {k : Nat} {p : Pt}, Vp rs p → k ≤ hp rs p → hp rs (Tw.sts rs k p) + k = hp rs p
  | 0, _, _, _ => rfl
  | k + 1, p, h, hk => by
    have h0 : p.1 ≠ 0 := fun e => by
      rw [h.zero e, hp_zero] at hk; omega
    have h1 := h.hp_st h0
    have := Vp.hp_sts (k := k) h.st_ok (by omega)
    show hp rs (Tw.sts rs k (Tw.st rs p)) + (k + 1) = _
    omega
/-- the points from p to the root -/
def climb (rs : Rds) (p : Pt) : List Pt := (List.range (hp rs p + 1)).map fun k => sts rs k p
theorem climb_len (rs : Rds) (p : Pt) : (climb rs p).length = hp rs p + 1 := by unfold climb; simp
theorem climb_at {rs : Rds} {p : Pt} {k : Nat} (h : k ≤ hp rs p) : (climb rs p)[k]? = some (sts rs k p) := by
  unfold climb
  rw [List.getElem?_map, List.getElem?_range (by omega)]; rfl
/-- the node on whose road (lower end with it) the height t lies, above v -/
def cov (rs : Rds) (v t : Nat) : Nat := if h : v = 0 then 0 else if ht rs (par rs v) < t then v else cov rs (par rs v) t
termination_by v
decreasing_by exact par_lt h
theorem cov_zero (rs : Rds) (t : Nat) : cov rs 0 t = 0 := by rw [cov]; simp
theorem cov_hi {rs : Rds} {v t : Nat} (h : v ≠ 0) (h2 : ht rs (par rs v) < t) : cov rs v t = v := by rw [cov]; simp [h, h2]
theorem cov_lo {rs : Rds} {v t : Nat} (h : v ≠ 0) (h2 : t ≤ ht rs (par rs v)) : cov rs v t = cov rs (par rs v) t := by
  rw [cov]; simp only [h, dite_false]; rw [if_neg (by omega)]
theorem cov_le (rs : Rds) (t : Nat) (v : Nat) : cov rs v t ≤ v := by
  induction v using Nat.strongRecOn with
  | _ v ih =>
    by_cases hv : v = 0
    · subst hv; rw [cov_zero]; exact Nat.le_refl 0
    · by_cases h : ht rs (par rs v) < t
      · rw [cov_hi hv h]; exact Nat.le_refl v
      · rw [cov_lo hv (by omega)]
        exact Nat.le_trans (ih _ (par_lt hv)) (par_le _ _)
/-- the least common node -/
def lca (rs : Rds) (v w : Nat) : Nat := if h : v = w then v else if h2 : w < v then lca rs (par rs v) w else lca rs v (par rs w)
termination_by v + w
decreasing_by
  · have := par_lt (rs := rs) (v := v) (by omega); omega
  · have := par_lt (rs := rs) (v := w) (by omega); omega
theorem lca_eq {rs : Rds} {v w : Nat} (h : v = w) : lca rs v w = v := by rw [lca]; simp [h]
theorem lca_gt {rs : Rds} {v w : Nat} (h : w < v) : lca rs v w = lca rs (par rs v) w := by
  rw [lca]; have : ¬ v = w := by omega
  simp [this, h]
theorem lca_lt {rs : Rds} {v w : Nat} (h : v < w) : lca rs v w = lca rs v (par rs w) := by
  rw [lca]; have : ¬ v = w := by omega
  have : ¬ w < v := by omega
  simp [*]
theorem lca_ht {rs : Rds} : ∀ (n v w : Nat), v + w ≤ n → ht rs (lca rs v w) ≤ ht rs v ∧ ht rs (lca rs v w) ≤ ht rs w := by
  intro n
  induction n with
  | zero =>
    intro v w h
    have : v = w := by omega
    rw [lca_eq this]; subst this; exact ⟨Nat.le_refl _, Nat.le_refl _⟩
  | succ n ih =>
    intro v w h
    rcases Nat.lt_trichotomy v w with h1 | h1 | h1
    · rw [lca_lt h1]
      have h2 := par_lt (rs := rs) (v := w) (by omega)
      obtain ⟨a, b⟩ := ih v (par rs w) (by omega)
      have := ht_pos (rs := rs) (v := w) (by omega)
      exact ⟨a, by omega⟩
    · rw [lca_eq h1]; subst h1; exact ⟨Nat.le_refl _, Nat.le_refl _⟩
    · rw [lca_gt h1]
      have h2 := par_lt (rs := rs) (v := v) (by omega)
      obtain ⟨a, b⟩ := ih (par rs v) w (by omega)
      have := ht_pos (rs := rs) (v := v) (by omega)
      exact ⟨by omega, b⟩
/-- two nodes have the height t in common exactly up to their least common node -/
theorem cov_lca {rs : Rds} {t : Nat} : ∀ (n v w : Nat), v + w ≤ n → t ≤ ht rs v → t ≤ ht rs w → (cov rs v t = cov rs w t ↔ t ≤ ht rs (lca rs v w) ∨ t = 0) := by
  intro n
  induction n with
  | zero =>
    intro v w h hv hw
    have e : v = w := by omega
    rw [lca_eq e]; subst e
    exact ⟨fun _ => .inl hv, fun _ => rfl⟩
  | succ n ih =>
    intro v w h hv hw
    rcases Nat.lt_trichotomy v w with h1 | h1 | h1
    · have hw0 : w ≠ 0 := by omega
      have h2 := par_lt (rs := rs) hw0
      rw [lca_lt h1]
      by_cases h3 : ht rs (par rs w) < t
      · rw [cov_hi hw0 h3]
        have h4 := cov_le rs t v
        have h5 := (lca_ht (rs := rs) _ v (par rs w) (Nat.le_refl _)).2
        exact ⟨fun e => by omega, fun e => by omega⟩
      · rw [cov_lo hw0 (by omega)]
        exact ih v (par rs w) (by omega) hv (by omega)
    · rw [lca_eq h1]; subst h1
      exact ⟨fun _ => .inl hv, fun _ => rfl⟩
    · have hv0 : v ≠ 0 := by omega
      have h2 := par_lt (rs := rs) hv0
      rw [lca_gt h1]
      by_cases h3 : ht rs (par rs v) < t
      · rw [cov_hi hv0 h3]
        have h4 := cov_le rs t w
        have h5 := (lca_ht (rs := rs) _ (par rs v) w (Nat.le_refl _)).1
        exact ⟨fun e => by omega, fun e => by omega⟩
      · rw [cov_lo hv0 (by omega)]
        exact ih (par rs v) w (by omega) (by omega) hw
/-- the point above p at the height t -/
theorem sts_cov {rs : Rds} {t : Nat} : ∀ (k : Nat) (p : Pt), Vp rs p → hp rs p = t + k → sts rs k p = (cov rs p.1 t, ht rs (cov rs p.1 t) - t)
  | 0, p, h, e => by
    show p = _
    by_cases h0 : p.1 = 0
    · rw [h.zero h0]
      show _ = (cov rs 0 t, ht rs (cov rs 0 t) - t)
      rw [cov_zero, ht_zero]; simp
    · have h2 := h.2
      have h3 := ht_pos (rs := rs) h0
      have h4 : hp rs p = ht rs p.1 - p.2 := rfl
      rw [cov_hi h0 (by omega)]
      refine Prod.ext rfl ?_
      show p.2 = ht rs p.1 - t
      omega
  | k + 1, p, h, e => by
    have h0 : p.1 ≠ 0 := fun e0 => by rw [h.zero e0, hp_zero] at e; omega
    have h1 := h.hp_st h0
    have ih := sts_cov (t := t) k (st rs p) h.st_ok (by omega)
    show sts rs k (st rs p) = _
    rw [ih]
    have h2 := h.2
    have h3 := ht_pos (rs := rs) h0
    have h4 : hp rs p = ht rs p.1 - p.2 := rfl
    have e1 : cov rs (st rs p).1 t = cov rs p.1 t := by
      unfold st
      rw [if_neg h0]
      by_cases h5 : p.2 + 1 = len rs p.1
      · rw [if_pos h5]
        show cov rs (par rs p.1) t = _
        rw [cov_lo h0 (by omega)]
      · rw [if_neg h5]
    rw [e1]
/-- the height of the point where two ways to the root meet -/
def jn (rs : Rds) (p q : Pt) : Nat := min (min (hp rs p) (hp rs q)) (ht rs (lca rs p.1 q.1))
theorem jn_le (rs : Rds) (p q : Pt) : jn rs p q ≤ hp rs p ∧ jn rs p q ≤ hp rs q := by unfold jn; omega
theorem meet_iff {rs : Rds} {p q : Pt} (hpp : Vp rs p) (hq : Vp rs q) {t : Nat} (h1 : t ≤ hp rs p) (h2 : t ≤ hp rs q) : (sts rs (hp rs p - t) p = sts rs (hp rs q - t) q) ↔ t ≤ jn rs p q := by
  rw [sts_cov (t := t) _ p hpp (by omega), sts_cov (t := t) _ q hq (by omega)]
  have a1 : t ≤ ht rs p.1 := by unfold hp at h1; omega
  have a2 : t ≤ ht rs q.1 := by unfold hp at h2; omega
  have := cov_lca (rs := rs) _ p.1 q.1 (Nat.le_refl _) a1 a2
  constructor
  · intro e
    have e1 := (Prod.ext_iff.mp e).1
    have := this.mp e1
    unfold jn
    omega
  · intro h
    have : cov rs p.1 t = cov rs q.1 t := this.mpr (by unfold jn at h; omega)
    rw [this]
theorem lca_comm {rs : Rds} : ∀ (n v w : Nat), v + w ≤ n → lca rs v w = lca rs w v := by
  intro n
  induction n with
  | zero => intro v w h; have : v = w := by omega
            subst this; rfl
  | succ n ih =>
    intro v w h
    rcases Nat.lt_trichotomy v w with h1 | h1 | h1
    · rw [lca_lt h1, lca_gt h1]
      exact ih _ _ (by have := par_lt (rs := rs) (v := w) (by omega); omega)
    · subst h1; rfl
    · rw [lca_gt h1, lca_lt h1]
      exact ih _ _ (by have := par_lt (rs := rs) (v := v) (by omega); omega)
theorem jn_comm (rs : Rds) (p q : Pt) : jn rs p q = jn rs q p := by
  unfold jn; rw [lca_comm _ p.1 q.1 (Nat.le_refl _)]; omega
theorem jn_self (rs : Rds) (p : Pt) : jn rs p p = hp rs p := by
  unfold jn; rw [lca_eq rfl]; unfold hp; omega
def dist (rs : Rds) (p q : Pt) : Nat := hp rs p + hp rs q - 2 * jn rs p q
theorem dist_comm (rs : Rds) (p q : Pt) : dist rs p q = dist rs q p := by unfold dist; rw [jn_comm, Nat.add_comm]
theorem dist_self (rs : Rds) (p : Pt) : dist rs p p = 0 := by unfold dist; rw [jn_self]; omega
/-- the way from p to q -/
def way (rs : Rds) (p q : Pt) : List Pt := (climb rs p).take (hp rs p + 1 - jn rs p q) ++ ((climb rs q).take (hp rs q - jn rs p q)).reverse
theorem way_len (rs : Rds) (p q : Pt) : (way rs p q).length = dist rs p q + 1 := by
  unfold way dist
  rw [List.length_append, List.length_reverse, List.length_take, List.length_take, climb_len, climb_len]
  have := jn_le rs p q
  omega
theorem Vr.nil {L : Int} : Vr [] L := fun k p l h => by simp at h
theorem Vr.snoc {rs : Rds} {L p l : Int} (V : Vr rs L) (h1 : 0 ≤ p) (h2 : p ≤ rs.length) (h3 : 1 ≤ l) (h4 : l ≤ L) : Vr (rs ++ [(p, l)]) L := fun k p' l' h => by
  by_cases hk : k < rs.length
  · rw [List.getElem?_append_left hk] at h
    exact V k p' l' h
  · have hk2 : k = rs.length := by
      have := (List.getElem?_eq_some_iff.mp h).1
      simp at this; omega
    subst hk2
    rw [List.getElem?_append_right (Nat.le_refl _)] at h
    simp at h
    obtain ⟨rfl, rfl⟩ := h
    exact ⟨h1, h2, h3, h4⟩
theorem Vp.node {rs : Rds} {v : Nat} (h : v ≤ rs.length) : Vp rs (v, 0) := ⟨h, len_pos _ _⟩
/-- the sum of the lengths bounds the heights -/
theorem sum_take_le (rs : Rds) {L : Int} (V : Vr rs L) : ∀ k, ((rs.map (·.2)).take k).sum ≤ (rs.map (·.2)).sum := by
  intro k
  have : 0 ≤ ((rs.map (·.2)).drop k).sum := by
    have hp : ∀ (xs : List Int), (∀ x ∈ xs, 0 ≤ x) → 0 ≤ xs.sum := by
      intro xs
      induction xs with
      | nil => intro _; simp
      | cons x xs ih => intro h; have := ih fun y hy => h y (List.mem_cons_of_mem _ hy); have := h x List.mem_cons_self; simp; omega
    refine hp _ fun x hx => ?_
    obtain ⟨y, hy, rfl⟩ := List.mem_map.mp (List.mem_of_mem_drop hx)
    obtain ⟨i, hi⟩ := List.getElem?_of_mem hy
    have := V i y.1 y.2 hi
    omega
  have e : (rs.map (·.2)).sum = ((rs.map (·.2)).take k).sum + ((rs.map (·.2)).drop k).sum := by rw [← List.sum_append, List.take_append_drop]
  omega
theorem ht_sum {rs : Rds} {L : Int} (V : Vr rs L) (v : Nat) (h : v ≤ rs.length) : (ht rs v : Int) ≤ ((rs.map (·.2)).take v).sum := by
  induction v using Nat.strongRecOn with
  | _ v ih =>
    by_cases hv : v = 0
    · subst hv; rw [ht_zero]; simp
    · rw [ht_pos hv]
      have h1 := par_lt (rs := rs) hv
      have h2 := ih _ h1 (by omega)
      obtain ⟨⟨a, b⟩, hab⟩ : ∃ x, rs[v - 1]? = some x := ⟨_, List.getElem?_eq_getElem (by omega)⟩
      have e1 := V.len_eq hab
      rw [show v - 1 + 1 = v by omega] at e1
      have mono : ∀ a b, a ≤ b → b ≤ rs.length → ((rs.map (·.2)).take a).sum ≤ ((rs.map (·.2)).take b).sum := fun a b hab hb => by
        have := sum_take_le (rs.take b) (L := L) (fun k p l hk => V k p l (by rw [List.getElem?_take] at hk; by_cases q : k < b <;> simp [q] at hk; exact hk)) a
        rw [List.map_take, List.take_take, Nat.min_eq_left hab] at this
        exact this
      have h3 := mono (par rs v) (v - 1) (by omega) (by omega)
      have e2 : ((rs.map (·.2)).take (v - 1 + 1)).sum = ((rs.map (·.2)).take (v - 1)).sum + b := by
        rw [List.take_succ, List.getElem?_map, hab, List.sum_append]; simp
      rw [show v - 1 + 1 = v by omega] at e2
      rw [e2]; push_cast; omega
theorem sum_le {rs : Rds} {L : Nat} (V : Vr rs L) : (rs.map (·.2)).sum ≤ L * rs.length := by
  have key : ∀ (xs : List Int), (∀ x ∈ xs, x ≤ L) → xs.sum ≤ L * xs.length := by
    intro xs
    induction xs with
    | nil => intro _; simp
    | cons x xs ih =>
      intro h
      have := ih fun y hy => h y (List.mem_cons_of_mem _ hy)
      have := h x List.mem_cons_self
      rw [List.sum_cons, List.length_cons]
      push_cast
      rw [Int.mul_add]; omega
  have := key (rs.map (·.2)) fun x hx => by
    obtain ⟨y, hy, rfl⟩ := List.mem_map.mp hx
    obtain ⟨i, hi⟩ := List.getElem?_of_mem hy
    have := V i y.1 y.2 hi
    omega
  simpa using this
theorem sum_nonneg {rs : Rds} {L : Int} (V : Vr rs L) : 0 ≤ (rs.map (·.2)).sum := by
  have := sum_take_le rs V 0
  simpa using this

/-! ### the tree that is made of roads -/
open Sm in
def mk (rs : Rds) : TreeD := ⟨0 :: rs.map fun x => x.1, 1 :: rs.map fun x => x.2, (List.range (rs.length + 1)).map fun v => (ht rs v : Int)⟩
theorem mk_ps {rs : Rds} {L : Int} (V : Vr rs L) {v : Nat} (h : v ≤ rs.length) : (0 :: rs.map fun x : Int × Int => x.1)[v]? = some (par rs v : Int) := by
  cases v with
  | zero => simp [par]
  | succ v =>
    obtain ⟨⟨a, b⟩, hab⟩ : ∃ x, rs[v]? = some x := ⟨_, List.getElem?_eq_getElem (by omega)⟩
    rw [List.getElem?_cons_succ, List.getElem?_map, hab, V.par_eq hab]; rfl
theorem mk_ls {rs : Rds} {L : Int} (V : Vr rs L) {v : Nat} (h : v ≤ rs.length) : (1 :: rs.map fun x : Int × Int => x.2)[v]? = some (len rs v : Int) := by
  cases v with
  | zero => simp [len]
  | succ v =>
    obtain ⟨⟨a, b⟩, hab⟩ : ∃ x, rs[v]? = some x := ⟨_, List.getElem?_eq_getElem (by omega)⟩
    rw [List.getElem?_cons_succ, List.getElem?_map, hab, V.len_eq hab]; rfl
theorem mk_hs (rs : Rds) {v n : Nat} (h : v < n) : ((List.range n).map fun v => (ht rs v : Int))[v]? = some (ht rs v : Int) := by
  rw [List.getElem?_map, List.getElem?_range h]; rfl
/-- the test of a point -/
def inb (rs : Rds) (x : Int × Int) : Bool := decide (0 ≤ x.1 ∧ x.1 ≤ rs.length ∧ 0 ≤ x.2 ∧ x.2 < len rs x.1.toNat)
end Tw
/-! P2: spreads. -/
namespace Tw
/-- the distances of x from ys -/
def tow (rs : Rds) (x : Pt) (ys : List Pt) : Nat := (ys.map fun y => dist rs y x).sum
def sprd (rs : Rds) : List Pt → Nat
  | [] => 0
  | x :: xs => tow rs x xs + sprd rs xs
theorem tow_perm {rs : Rds} {x : Pt} {ys zs : List Pt} (h : ys.Perm zs) : tow rs x ys = tow rs x zs := (h.map _).sum_nat
theorem sprd_perm {rs : Rds} {ys zs : List Pt} (h : ys.Perm zs) : sprd rs ys = sprd rs zs := by
  induction h with
  | nil => rfl
  | cons x h ih => show tow rs x _ + _ = tow rs x _ + _; rw [tow_perm h, ih]
  | swap x y l =>
    show (tow rs y (x :: l) + (tow rs x l + sprd rs l)) = (tow rs x (y :: l) + (tow rs y l + sprd rs l))
    unfold tow
    rw [List.map_cons, List.map_cons, List.sum_cons, List.sum_cons, dist_comm rs x y]; omega
  | trans _ _ a b => exact a.trans b
theorem sprd_snoc (rs : Rds) (xs : List Pt) (x : Pt) : sprd rs (xs ++ [x]) = sprd rs xs + tow rs x xs := by
  have h : (xs ++ [x]).Perm (x :: xs) := by
    have := List.perm_append_comm (l₁ := xs) (l₂ := [x])
    simpa using this
  rw [sprd_perm h]
  show tow rs x xs + sprd rs xs = _
  omega
theorem sprd_take {rs : Rds} {xs : List Pt} {k : Nat} {x : Pt} (h : xs[k]? = some x) : sprd rs (xs.take (k + 1)) = sprd rs (xs.take k) + tow rs x (xs.take k) := by
  rw [List.take_succ, h]
  exact sprd_snoc rs _ x
theorem tow_take {rs : Rds} {xs : List Pt} {k : Nat} {x y : Pt} (h : xs[k]? = some y) : tow rs x (xs.take (k + 1)) = tow rs x (xs.take k) + dist rs y x := by
  unfold tow
  rw [List.take_succ, h]
  simp
theorem sprd_same {rs : Rds} {p : Pt} : ∀ {xs : List Pt}, (∀ x ∈ xs, x = p) → sprd rs xs = 0
  | [], _ => rfl
  | x :: xs, h => by
    show tow rs x xs + sprd rs xs = 0
    have hx := h x List.mem_cons_self
    rw [sprd_same fun y hy => h y (List.mem_cons_of_mem _ hy), hx]
    have : ∀ ys : List Pt, (∀ y ∈ ys, y = p) → tow rs p ys = 0 := by
      intro ys
      induction ys with
      | nil => intro _; rfl
      | cons y ys ih =>
        intro hy
        have e := ih fun z hz => hy z (List.mem_cons_of_mem _ hz)
        unfold tow at e ⊢
        rw [List.map_cons, List.sum_cons, e, hy y List.mem_cons_self, dist_self]
    rw [this xs fun y hy => h y (List.mem_cons_of_mem _ hy)]
theorem sum_cast : ∀ (xs : List Nat), (xs.map fun n : Nat => (n : Int)).sum = (xs.sum : Int)
  | [] => rfl
  | x :: xs => by rw [List.map_cons, List.sum_cons, List.sum_cons, sum_cast xs]; omega
end Tw
/-! P3: distances by steps. -/
namespace Tw
theorem hp_le (rs : Rds) (p : Pt) : hp rs p ≤ ht rs p.1 := by unfold hp; omega
/-- from the greater node up to its parent -/
theorem dist_up {rs : Rds} {v u : Nat} {q : Pt} (hv : Vp rs (v, u)) (hq : Vp rs q) (h : q.1 < v) : dist rs (v, u) q + u = len rs v + dist rs (par rs v, 0) q := by
  have h0 : v ≠ 0 := by omega
  have h1 := ht_pos (rs := rs) h0
  have h2 : u < len rs v := hv.2
  have e : jn rs (v, u) q = jn rs (par rs v, 0) q := by
    unfold jn
    show min (min (hp rs (v, u)) (hp rs q)) (ht rs (lca rs v q.1)) = min (min (hp rs (par rs v, 0)) (hp rs q)) (ht rs (lca rs (par rs v) q.1))
    rw [lca_gt h]
    have h3 := (lca_ht (rs := rs) _ (par rs v) q.1 (Nat.le_refl _)).1
    have e1 : hp rs (v, u) = ht rs v - u := rfl
    have e2 : hp rs (par rs v, 0) = ht rs (par rs v) := rfl
    omega
  have j1 := jn_le rs (v, u) q
  have j2 := jn_le rs (par rs v, 0) q
  have e1 : hp rs (v, u) = ht rs v - u := rfl
  have e2 : hp rs (par rs v, 0) = ht rs (par rs v) := rfl
  unfold dist
  rw [e] at j1 ⊢
  omega
theorem dist_road {rs : Rds} {v u w : Nat} (h1 : Vp rs (v, u)) (h2 : Vp rs (v, w)) : (dist rs (v, u) (v, w) : Int) = if (u : Int) - w < 0 then -((u : Int) - w) else (u : Int) - w := by
  have e1 : hp rs (v, u) = ht rs v - u := rfl
  have e2 : hp rs (v, w) = ht rs v - w := rfl
  have l1 : u ≤ ht rs v := h1.le_ht
  have l2 : w ≤ ht rs v := h2.le_ht
  have ej : jn rs (v, u) (v, w) = min (ht rs v - u) (ht rs v - w) := by
    unfold jn
    show min (min (hp rs (v, u)) (hp rs (v, w))) (ht rs (lca rs v v)) = _
    rw [lca_eq rfl, e1, e2]; omega
  unfold dist
  rw [ej, e1, e2]
  split <;> omega
theorem dist_zero {rs : Rds} {p q : Pt} (h1 : Vp rs p) (h2 : Vp rs q) (h : dist rs p q = 0) : p = q := by
  have j := jn_le rs p q
  unfold dist at h
  have e1 : hp rs p = jn rs p q := by omega
  have e2 : hp rs q = jn rs p q := by omega
  have := (meet_iff h1 h2 (t := jn rs p q) j.1 j.2).mpr (Nat.le_refl _)
  rw [e1, e2, Nat.sub_self] at this
  exact this
theorem dist_pos {rs : Rds} {p q : Pt} (h1 : Vp rs p) (h2 : Vp rs q) (h : p ≠ q) : 0 < dist rs p q := Nat.pos_of_ne_zero fun e => h (dist_zero h1 h2 e)
end Tw
/-! P4: plans: crews led by hand. -/
namespace Tw
def stp (rs : Rds) (s : List Pt × Nat) (z : Pt × Nat) : List Pt × Nat := (s.1.set z.2 z.1, s.2 + dist rs (s.1.getD z.2 (0, 0)) z.1)
def pfold (rs : Rds) (c : List Pt) (zs : List (Pt × Nat)) : List Pt × Nat := zs.foldl (stp rs) (c, 0)
theorem stp_from (rs : Rds) : ∀ (zs : List (Pt × Nat)) (c : List Pt) (g : Nat), zs.foldl (stp rs) (c, g) = ((pfold rs c zs).1, g + (pfold rs c zs).2)
  | [], _, _ => rfl
  | z :: zs, c, g => by
    have e1 := stp_from rs zs (c.set z.2 z.1) (g + dist rs (c.getD z.2 (0, 0)) z.1)
    have e2 := stp_from rs zs (c.set z.2 z.1) (0 + dist rs (c.getD z.2 (0, 0)) z.1)
    show zs.foldl (stp rs) (c.set z.2 z.1, g + dist rs (c.getD z.2 (0, 0)) z.1) = ((zs.foldl (stp rs) (c.set z.2 z.1, 0 + dist rs (c.getD z.2 (0, 0)) z.1)).1, g + (zs.foldl (stp rs) (c.set z.2 z.1, 0 + dist rs (c.getD z.2 (0, 0)) z.1)).2)
    rw [e1, e2]
    simp only [Prod.mk.injEq, true_and]
    omega
theorem pfold_nil (rs : Rds) (c : List Pt) : pfold rs c [] = (c, 0) := rfl
theorem pfold_cons (rs : Rds) (c : List Pt) (z : Pt × Nat) (zs : List (Pt × Nat)) : pfold rs c (z :: zs) = ((pfold rs (c.set z.2 z.1) zs).1, dist rs (c.getD z.2 (0, 0)) z.1 + (pfold rs (c.set z.2 z.1) zs).2) := by
  show zs.foldl (stp rs) (c.set z.2 z.1, 0 + dist rs (c.getD z.2 (0, 0)) z.1) = _
  rw [stp_from]
  simp
theorem pfold_app (rs : Rds) (c : List Pt) (ys zs : List (Pt × Nat)) : pfold rs c (ys ++ zs) = ((pfold rs (pfold rs c ys).1 zs).1, (pfold rs c ys).2 + (pfold rs (pfold rs c ys).1 zs).2) := by
  have e := stp_from rs zs (pfold rs c ys).1 (pfold rs c ys).2
  show (ys ++ zs).foldl (stp rs) (c, 0) = _
  rw [List.foldl_append]
  exact e
theorem pfold_len (rs : Rds) : ∀ (zs : List (Pt × Nat)) (c : List Pt), (pfold rs c zs).1.length = c.length
  | [], _ => rfl
  | z :: zs, c => by rw [pfold_cons]; show (pfold rs _ zs).1.length = _; rw [pfold_len rs zs, List.length_set]
theorem pfold_vp (rs : Rds) : ∀ (zs : List (Pt × Nat)) (c : List Pt), (∀ q ∈ c, Vp rs q) → (∀ z ∈ zs, Vp rs z.1) → ∀ q ∈ (pfold rs c zs).1, Vp rs q
  | [], _, h, _, q, hq => h q hq
  | z :: zs, c, h, k, q, hq => by
    rw [pfold_cons] at hq
    refine pfold_vp rs zs _ (fun r hr => ?_) (fun y hy => k y (List.mem_cons_of_mem _ hy)) q hq
    rcases List.mem_or_eq_of_mem_set hr with hr | hr
    · exact h r hr
    · rw [hr]; exact k z List.mem_cons_self
def plen (rs : Rds) : List Pt → Nat
  | [] => 0
  | [_] => 0
  | a :: b :: r => dist rs a b + plen rs (b :: r)
/-- where the helper i goes -/
def chain (c : List Pt) (zs : List (Pt × Nat)) (i : Nat) : List Pt := c.getD i (0, 0) :: (zs.filter fun z => decide (z.2 = i)).map (·.1)
theorem chain_nil (c : List Pt) (i : Nat) : chain c [] i = [c.getD i (0, 0)] := rfl
theorem getD_set_self {α : Type} {c : List α} {j : Nat} {x d : α} (h : j < c.length) : (c.set j x).getD j d = x := by
  rw [List.getD_eq_getElem?_getD, List.getElem?_set_self h]; rfl
theorem getD_set_ne {α : Type} {c : List α} {i j : Nat} {x d : α} (h : i ≠ j) : (c.set j x).getD i d = c.getD i d := by
  rw [List.getD_eq_getElem?_getD, List.getElem?_set_ne (Ne.symm h), ← List.getD_eq_getElem?_getD]
theorem chain_self {c : List Pt} {z : Pt × Nat} {zs : List (Pt × Nat)} (h : z.2 < c.length) : chain c (z :: zs) z.2 = c.getD z.2 (0, 0) :: chain (c.set z.2 z.1) zs z.2 := by
  unfold chain
  rw [List.filter_cons, if_pos (by simp), getD_set_self h]; rfl
theorem chain_ne {c : List Pt} {z : Pt × Nat} {zs : List (Pt × Nat)} {i : Nat} (h : i ≠ z.2) : chain c (z :: zs) i = chain (c.set z.2 z.1) zs i := by
  unfold chain
  rw [List.filter_cons, if_neg (by simp; exact fun e => h e.symm), getD_set_ne h]
theorem plen_cons (rs : Rds) (p : Pt) (c : List Pt) (zs : List (Pt × Nat)) (i : Nat) : plen rs (p :: chain c zs i) = dist rs p (c.getD i (0, 0)) + plen rs (chain c zs i) := rfl
theorem sum_upd {f g : Nat → Nat} {d j : Nat} : ∀ n : Nat, j < n → (∀ i, i ≠ j → f i = g i) → f j = d + g j → ((List.range n).map f).sum = d + ((List.range n).map g).sum
  | 0, h, _, _ => absurd h (Nat.not_lt_zero _)
  | n + 1, h, h1, h2 => by
    rw [List.range_succ, List.map_append, List.map_append, List.sum_append, List.sum_append]
    by_cases e : j = n
    · subst e
      have : ((List.range j).map f) = (List.range j).map g := List.map_congr_left fun i hi => h1 i (by have := List.mem_range.mp hi; omega)
      rw [this]
      show _ + (f j + 0) = d + (_ + (g j + 0))
      omega
    · have := sum_upd (f := f) (g := g) n (by omega) h1 h2
      have e2 := h1 n (fun z => e z.symm)
      show _ + (f n + 0) = d + (_ + (g n + 0))
      omega
theorem pfold_chain (rs : Rds) : ∀ (zs : List (Pt × Nat)) (c : List Pt), (∀ z ∈ zs, z.2 < c.length) →
    (pfold rs c zs).1 = (List.range c.length).map (fun i => (chain c zs i).getLastD (0, 0)) ∧ (pfold rs c zs).2 = ((List.range c.length).map fun i => plen rs (chain c zs i)).sum
  | [], c, _ => by
    constructor
    · show c = _
      refine List.ext_getElem (by simp) fun i h1 h2 => ?_
      rw [List.getElem_map, List.getElem_range, chain_nil]
      show _ = c.getD i (0, 0)
      rw [List.getD_eq_getElem?_getD, List.getElem?_eq_getElem h1]; rfl
    · show 0 = _
      symm
      rw [show (fun i => plen rs (chain c [] i)) = fun _ => 0 from rfl]
      induction c.length with
      | zero => rfl
      | succ n ih => rw [List.range_succ, List.map_append, List.sum_append, ih]; rfl
  | z :: zs, c, h => by
    have hz : z.2 < c.length := h z List.mem_cons_self
    obtain ⟨h1, h2⟩ := pfold_chain rs zs (c.set z.2 z.1) fun y hy => by rw [List.length_set]; exact h y (List.mem_cons_of_mem _ hy)
    rw [List.length_set] at h1 h2
    rw [pfold_cons]
    constructor
    · show (pfold rs _ zs).1 = _
      rw [h1]
      refine List.map_congr_left fun i _ => ?_
      by_cases e : i = z.2
      · subst e
        rw [chain_self hz]
        rfl
      · rw [chain_ne e]
    · show _ + (pfold rs _ zs).2 = _
      rw [h2]
      symm
      refine sum_upd (j := z.2) c.length hz (fun i e => by rw [chain_ne e]) ?_
      show plen rs (chain c (z :: zs) z.2) = _
      rw [chain_self hz, plen_cons, getD_set_self hz]
/-- the sum over a list's steps -/
theorem plen_sum (rs : Rds) : ∀ l : List Pt, plen rs l = ((List.range (l.length - 1)).map fun k => dist rs (l.getD k (0, 0)) (l.getD (k + 1) (0, 0))).sum
  | [] => rfl
  | [_] => rfl
  | a :: b :: r => by
    have ih := plen_sum rs (b :: r)
    show dist rs a b + plen rs (b :: r) = _
    rw [ih]
    show _ = ((List.range (r.length + 1)).map _).sum
    rw [List.range_succ_eq_map, List.map_cons, List.map_map]
    rfl
/-- another order of the helpers -/
theorem idxOf_lt' {os : List Nat} {j : Nat} (h : j ∈ os) : os.idxOf j < os.length := List.idxOf_lt_length_of_mem h
theorem turned_set {os : List Nat} (nd : os.Nodup) {c : List Pt} {j : Nat} (hj : j ∈ os) (hl : j < c.length) (p : Pt) : (os.map fun i => c.getD i (0, 0)).set (os.idxOf j) p = os.map fun i => (c.set j p).getD i (0, 0) := by
  refine List.ext_getElem (by simp) fun k h1 h2 => ?_
  have hk : k < os.length := by simpa using h1
  rw [List.getElem_set, List.getElem_map]
  have hik := idxOf_lt' hj
  by_cases e : os.idxOf j = k
  · rw [if_pos e, List.getElem_map]
    subst e
    rw [List.getElem_idxOf hik, getD_set_self hl]
  · rw [if_neg e, List.getElem_map]
    rw [getD_set_ne fun z => e ?_]
    rw [← z]
    exact nd.idxOf_getElem k hk
theorem turned_get {os : List Nat} {c : List Pt} {j : Nat} (hj : j ∈ os) : (os.map fun i => c.getD i (0, 0)).getD (os.idxOf j) (0, 0) = c.getD j (0, 0) := by
  have hik := idxOf_lt' hj
  rw [List.getD_eq_getElem?_getD, List.getElem?_map, List.getElem?_eq_getElem hik, List.getElem_idxOf hik]
  rfl
theorem pfold_turned (rs : Rds) {os : List Nat} (nd : os.Nodup) : ∀ (zs : List (Pt × Nat)) (c : List Pt), (∀ z ∈ zs, z.2 ∈ os ∧ z.2 < c.length) →
    pfold rs (os.map fun i => c.getD i (0, 0)) (zs.map fun z => (z.1, os.idxOf z.2)) = (os.map fun i => (pfold rs c zs).1.getD i (0, 0), (pfold rs c zs).2)
  | [], _, _ => rfl
  | z :: zs, c, h => by
    obtain ⟨h1, h2⟩ := h z List.mem_cons_self
    rw [List.map_cons, pfold_cons, pfold_cons]
    show ((pfold rs ((os.map _).set (os.idxOf z.2) z.1) _).1, dist rs ((os.map _).getD (os.idxOf z.2) (0, 0)) z.1 + _) = _
    rw [turned_set nd h1 h2, turned_get h1, pfold_turned rs nd zs (c.set z.2 z.1) fun y hy => by
      rw [List.length_set]
      exact h y (List.mem_cons_of_mem _ hy)]
theorem zip_take {α β : Type} : ∀ (xs : List α) (ys : List β) (k : Nat), (xs.take k).zip (ys.take k) = (xs.zip ys).take k
  | [], _, _ => by simp
  | _ :: _, [], _ => by simp
  | _ :: _, _ :: _, 0 => rfl
  | x :: xs, y :: ys, k + 1 => by
    show (x, y) :: (xs.take k).zip (ys.take k) = (x, y) :: (xs.zip ys).take k
    rw [zip_take xs ys k]
theorem zip_drop {α β : Type} : ∀ (xs : List α) (ys : List β) (k : Nat), (xs.drop k).zip (ys.drop k) = (xs.zip ys).drop k
  | [], _, _ => by simp
  | _ :: _, [], k => by simp
  | _ :: _, _ :: _, 0 => rfl
  | _ :: xs, _ :: ys, k + 1 => zip_drop xs ys k
/-- two lists put in twos, by place -/
theorem zip_range {α β : Type} (a : α) (b : β) {xs : List α} {ys : List β} {n : Nat} (h1 : xs.length = n) (h2 : ys.length = n) : xs.zip ys = (List.range n).map fun k => (xs.getD k a, ys.getD k b) := by
  refine List.ext_getElem (by simp [h1, h2]) fun k h3 h4 => ?_
  have hk : k < n := by simpa using h4
  rw [List.getElem_zip, List.getElem_map, List.getElem_range, List.getD_eq_getElem?_getD, List.getD_eq_getElem?_getD, List.getElem?_eq_getElem (by omega), List.getElem?_eq_getElem (by omega)]
  rfl
end Tw
/-! P5: the nearest helper. -/
namespace Tw
def leastN : List Nat → Nat
  | [] => 0
  | [x] => x
  | x :: y :: r => min x (leastN (y :: r))
theorem leastN_mem : ∀ {xs : List Nat}, xs ≠ [] → leastN xs ∈ xs
  | [], h => absurd rfl h
  | [x], _ => List.mem_cons_self
  | x :: y :: r, _ => by
    have ih := leastN_mem (xs := y :: r) (by simp)
    show min x (leastN (y :: r)) ∈ _
    by_cases h : x ≤ leastN (y :: r)
    · rw [Nat.min_eq_left h]; exact List.mem_cons_self
    · rw [Nat.min_eq_right (by omega)]; exact List.mem_cons_of_mem _ ih
theorem leastN_le : ∀ {xs : List Nat} {z : Nat}, z ∈ xs → leastN xs ≤ z
  | [x], z, h => by rw [List.mem_singleton.mp h]; exact Nat.le_refl _
  | x :: y :: r, z, h => by
    show min x (leastN (y :: r)) ≤ z
    rcases List.mem_cons.mp h with rfl | h
    · exact Nat.min_le_left _ _
    · exact Nat.le_trans (Nat.min_le_right _ _) (leastN_le h)
def ways (rs : Rds) (c : List Pt) (call : Pt) : List Nat := c.map fun p => dist rs p call
theorem ways_len (rs : Rds) (c : List Pt) (call : Pt) : (ways rs c call).length = c.length := List.length_map _
def nearI (rs : Rds) (c : List Pt) (call : Pt) : Nat := (ways rs c call).idxOf (leastN (ways rs c call))
/-- Nearest -/
def nearS (rs : Rds) (c : List Pt) (call : Pt) : List Pt × Nat := (c.set (nearI rs c call) call, leastN (ways rs c call))
theorem nearI_lt {rs : Rds} {c : List Pt} {call : Pt} (h : c ≠ []) : nearI rs c call < c.length := by
  have h2 : ways rs c call ≠ [] := fun e => h (List.map_eq_nil_iff.mp e)
  have := List.idxOf_lt_length_of_mem (leastN_mem h2)
  rw [ways_len] at this
  exact this
theorem nearS_len (rs : Rds) (c : List Pt) (call : Pt) : (nearS rs c call).1.length = c.length := List.length_set
theorem nearS_vp {rs : Rds} {c : List Pt} {call : Pt} (hc : ∀ q ∈ c, Vp rs q) (h : Vp rs call) : ∀ q ∈ (nearS rs c call).1, Vp rs q := fun q hq => by
  rcases List.mem_or_eq_of_mem_set hq with hq | hq
  · exact hc q hq
  · rw [hq]; exact h
end Tw
/-! P6: the tree seen from any point: steps towards it, and where two ways to it meet. -/
namespace Tw
section
variable {rs : Rds}
/-- the lesser two of three junctions are equal -/
theorem jn_tri {p q x : Pt} (hp_ : Vp rs p) (hq : Vp rs q) (hx : Vp rs x) : min (jn rs p q) (jn rs q x) ≤ jn rs p x := by
  have h1 := jn_le rs p q
  have h2 := jn_le rs q x
  have e1 := (meet_iff hp_ hq (t := min (jn rs p q) (jn rs q x)) (by omega) (by omega)).mpr (by omega)
  have e2 := (meet_iff hq hx (t := min (jn rs p q) (jn rs q x)) (by omega) (by omega)).mpr (by omega)
  exact (meet_iff hp_ hx (by omega) (by omega)).mp (e1.trans e2)
theorem jn_sts {p q : Pt} (hp_ : Vp rs p) (hq : Vp rs q) {k : Nat} (hk : k ≤ hp rs p) : jn rs (sts rs k p) q = min (hp rs p - k) (jn rs p q) := by
  have hs := hp_.hp_sts (k := k) hk
  have vs := hp_.sts_ok (k := k)
  have jl := jn_le rs p q
  have jl2 := jn_le rs (sts rs k p) q
  have key : ∀ t, t ≤ hp rs p - k → t ≤ hp rs q → (t ≤ jn rs (sts rs k p) q ↔ t ≤ jn rs p q) := fun t h1 h2 => by
    rw [← meet_iff vs hq (by omega) h2, ← meet_iff hp_ hq (by omega) h2, sts_add, show k + (hp rs (sts rs k p) - t) = hp rs p - t by omega]
  have k1 := key (jn rs (sts rs k p) q) (by omega) (by omega)
  have k2 := key (min (hp rs p - k) (jn rs p q)) (by omega) (by omega)
  omega
/-- the point k steps from p towards x -/
def tw (rs : Rds) (p x : Pt) (k : Nat) : Pt := if k ≤ hp rs p - jn rs p x then sts rs k p else sts rs (dist rs p x - k) x
theorem tw_vp {p x : Pt} (h : Vp rs p) (hx : Vp rs x) (k : Nat) : Vp rs (tw rs p x k) := by
  unfold tw
  by_cases c : k ≤ hp rs p - jn rs p x
  · rw [if_pos c]; exact h.sts_ok
  · rw [if_neg c]; exact hx.sts_ok
theorem tw_dist {p x : Pt} (h : Vp rs p) (hx : Vp rs x) {k : Nat} (hk : k ≤ dist rs p x) : dist rs (tw rs p x k) x = dist rs p x - k ∧ dist rs p (tw rs p x k) = k := by
  have jl := jn_le rs p x
  unfold tw
  by_cases c : k ≤ hp rs p - jn rs p x
  · rw [if_pos c]
    have e1 := jn_sts h hx (k := k) (by omega)
    have e2 := jn_sts h h (k := k) (by omega)
    rw [jn_self] at e2
    have e3 := h.hp_sts (k := k) (by omega)
    rw [dist_comm rs p (sts rs k p)]
    unfold dist
    rw [e1, e2]
    omega
  · rw [if_neg c]
    have hd : dist rs p x = hp rs p + hp rs x - 2 * jn rs p x := rfl
    have e1 := jn_sts hx hx (k := dist rs p x - k) (by omega)
    rw [jn_self] at e1
    have e2 := jn_sts hx h (k := dist rs p x - k) (by omega)
    rw [jn_comm rs x p] at e2
    have e3 := hx.hp_sts (k := dist rs p x - k) (by omega)
    rw [dist_comm rs p (sts rs (dist rs p x - k) x)]
    have d1 : dist rs (sts rs (dist rs p x - k) x) x = hp rs (sts rs (dist rs p x - k) x) + hp rs x - 2 * jn rs (sts rs (dist rs p x - k) x) x := rfl
    have d2 : dist rs (sts rs (dist rs p x - k) x) p = hp rs (sts rs (dist rs p x - k) x) + hp rs p - 2 * jn rs (sts rs (dist rs p x - k) x) p := rfl
    rw [d1, d2, e1, e2]
    omega
theorem dist_tri {p q x : Pt} (h1 : Vp rs p) (h2 : Vp rs q) (h3 : Vp rs x) : dist rs p x ≤ dist rs p q + dist rs q x := by
  have j1 := jn_tri h1 h2 h3
  have l1 := jn_le rs p q
  have l2 := jn_le rs q x
  have l3 := jn_le rs p x
  unfold dist
  omega
/-- on the way: the point so far from the beginning -/
theorem tw_uniq {p q x : Pt} (h1 : Vp rs p) (h2 : Vp rs q) (h3 : Vp rs x) (h : dist rs p q + dist rs q x = dist rs p x) : q = tw rs p x (dist rs p q) := by
  have j1 := jn_tri h1 h2 h3
  have j2 := jn_tri h2 h1 h3
  have j3 := jn_tri h1 h3 h2
  rw [jn_comm rs q p] at j2
  rw [jn_comm rs x q] at j3
  have l1 := jn_le rs p q
  have l2 := jn_le rs q x
  have l3 := jn_le rs p x
  have hd : dist rs p x = hp rs p + hp rs x - 2 * jn rs p x := rfl
  have hd1 : dist rs p q = hp rs p + hp rs q - 2 * jn rs p q := rfl
  have hd2 : dist rs q x = hp rs q + hp rs x - 2 * jn rs q x := rfl
  unfold tw
  have anc : ∀ {u v : Pt}, Vp rs u → Vp rs v → jn rs u v = hp rs v → sts rs (hp rs u - hp rs v) u = v := fun {u v} hu hv e => by
    have := (meet_iff hu hv (t := hp rs v) (by have := jn_le rs u v; omega) (Nat.le_refl _)).mpr (by omega)
    rw [Nat.sub_self] at this
    exact this
  by_cases c : dist rs p q ≤ hp rs p - jn rs p x
  · rw [if_pos c]
    by_cases c2 : jn rs p q = hp rs q
    · have := anc h1 h2 c2
      rw [show dist rs p q = hp rs p - hp rs q by omega]
      exact this.symm
    · have e : jn rs q x = hp rs q := by omega
      exfalso
      omega
  · rw [if_neg c]
    have e : jn rs x q = hp rs q := by rw [jn_comm]; omega
    have := anc h3 h2 e
    rw [show dist rs p x - dist rs p q = hp rs x - hp rs q by omega]
    exact this.symm
theorem tw_zero {p x : Pt} : tw rs p x 0 = p := by unfold tw; rw [if_pos (Nat.zero_le _)]; rfl
theorem tw_end {p x : Pt} (h : Vp rs p) (hx : Vp rs x) : tw rs p x (dist rs p x) = x := by
  have := (tw_dist h hx (Nat.le_refl _)).1
  exact dist_zero (tw_vp h hx _) hx (by omega)
theorem tw_tw {p x : Pt} (h : Vp rs p) (hx : Vp rs x) {i k : Nat} (hk : i + k ≤ dist rs p x) : tw rs (tw rs p x i) x k = tw rs p x (i + k) := by
  have v1 := tw_vp h hx i
  have v2 := tw_vp v1 hx k
  obtain ⟨a1, a2⟩ := tw_dist h hx (k := i) (by omega)
  obtain ⟨b1, b2⟩ := tw_dist v1 hx (k := k) (by omega)
  have t1 := dist_tri h v1 v2
  have t2 := dist_tri h v2 hx
  have e : dist rs p (tw rs (tw rs p x i) x k) = i + k := by omega
  have := tw_uniq h v2 hx (by omega)
  rw [e] at this
  exact this
theorem on_tw {p q x : Pt} (h : Vp rs p) (hq : Vp rs q) (hx : Vp rs x) : dist rs p q + dist rs q x = dist rs p x ↔ ∃ k, k ≤ dist rs p x ∧ q = tw rs p x k := by
  constructor
  · intro e
    exact ⟨dist rs p q, by omega, tw_uniq h hq hx e⟩
  · rintro ⟨k, hk, rfl⟩
    obtain ⟨a, b⟩ := tw_dist h hx hk
    omega
/-- how far from x the ways of p and q to it meet -/
def gr (rs : Rds) (x p q : Pt) : Nat := (dist rs p x + dist rs q x - dist rs p q) / 2
theorem gr_two {x p q : Pt} (hx : Vp rs x) (h : Vp rs p) (hq : Vp rs q) : 2 * gr rs x p q + dist rs p q = dist rs p x + dist rs q x := by
  have j1 := jn_tri h hx hq
  have j2 := jn_tri h hq hx
  have j3 := jn_tri hq h hx
  rw [jn_comm rs x q] at j1
  rw [jn_comm rs q p] at j3
  have l1 := jn_le rs p q
  have l2 := jn_le rs q x
  have l3 := jn_le rs p x
  unfold gr dist
  omega
theorem gr_comm (x p q : Pt) : gr rs x p q = gr rs x q p := by unfold gr; rw [dist_comm rs p q, Nat.add_comm]
theorem gr_le {x p q : Pt} (hx : Vp rs x) (h : Vp rs p) (hq : Vp rs q) : gr rs x p q ≤ dist rs p x ∧ gr rs x p q ≤ dist rs q x := by
  have e := gr_two hx h hq
  have t1 := dist_tri h hq hx
  have t2 := dist_tri hq h hx
  rw [dist_comm rs q p] at t2
  omega
theorem gr_self {x p : Pt} : gr rs x p p = dist rs p x := by unfold gr; rw [dist_self]; omega
theorem gr_meet {x p q : Pt} (hx : Vp rs x) (h : Vp rs p) (hq : Vp rs q) {s : Nat} (h1 : s ≤ dist rs p x) (h2 : s ≤ dist rs q x) : tw rs p x (dist rs p x - s) = tw rs q x (dist rs q x - s) ↔ s ≤ gr rs x p q := by
  have e := gr_two hx h hq
  have gl := gr_le hx h hq
  constructor
  · intro e2
    obtain ⟨a1, a2⟩ := tw_dist h hx (k := dist rs p x - s) (by omega)
    obtain ⟨b1, b2⟩ := tw_dist hq hx (k := dist rs q x - s) (by omega)
    have t := dist_tri h (tw_vp h hx (dist rs p x - s)) hq
    have e3 : dist rs (tw rs p x (dist rs p x - s)) q = dist rs q x - s := by rw [e2, dist_comm rs _ q, b2]
    omega
  · intro hs
    -- at the place where they meet
    have top : tw rs p x (dist rs p x - gr rs x p q) = tw rs q x (dist rs q x - gr rs x p q) := by
      have j1 := jn_tri h hx hq
      have j2 := jn_tri h hq hx
      have j3 := jn_tri hq h hx
      rw [jn_comm rs x q] at j1
      rw [jn_comm rs q p] at j3
      have l1 := jn_le rs p q
      have l2 := jn_le rs q x
      have l3 := jn_le rs p x
      have d1 : dist rs p x = hp rs p + hp rs x - 2 * jn rs p x := rfl
      have d2 : dist rs q x = hp rs q + hp rs x - 2 * jn rs q x := rfl
      have d3 : dist rs p q = hp rs p + hp rs q - 2 * jn rs p q := rfl
      by_cases c1 : jn rs p x = jn rs q x
      · -- both join first
        have g1 : gr rs x p q + 2 * jn rs p x = hp rs x + jn rs p q := by omega
        have m := (meet_iff h hq (t := jn rs p q) (by omega) (by omega)).mpr (Nat.le_refl _)
        unfold tw
        rw [if_pos (by omega), if_pos (by omega), show dist rs p x - gr rs x p q = hp rs p - jn rs p q by omega, show dist rs q x - gr rs x p q = hp rs q - jn rs p q by omega]
        exact m
      · have other : ∀ {p q : Pt}, Vp rs p → Vp rs q → jn rs p x < jn rs q x → jn rs p q = jn rs p x → dist rs p x = hp rs p + hp rs x - 2 * jn rs p x → dist rs q x = hp rs q + hp rs x - 2 * jn rs q x → 2 * gr rs x p q + dist rs p q = dist rs p x + dist rs q x → dist rs p q = hp rs p + hp rs q - 2 * jn rs p q → jn rs q x ≤ hp rs q → jn rs q x ≤ hp rs x → jn rs p x ≤ hp rs p →
            tw rs p x (dist rs p x - gr rs x p q) = tw rs q x (dist rs q x - gr rs x p q) := fun {p q} h hq c e1 d1 d2 d4 d3 l1 l2 l3 => by
          have g1 : gr rs x p q = hp rs x - jn rs q x := by omega
          have m := (meet_iff hq hx (t := jn rs q x) (by omega) (by omega)).mpr (Nat.le_refl _)
          unfold tw
          rw [if_neg (by omega), if_pos (by omega), show dist rs p x - (dist rs p x - gr rs x p q) = hp rs x - jn rs q x by omega, show dist rs q x - gr rs x p q = hp rs q - jn rs q x by omega]
          exact m.symm
        by_cases c2 : jn rs p x < jn rs q x
        · exact other h hq c2 (by omega) d1 d2 e d3 (by omega) (by omega) (by omega)
        · have := other hq h (by omega) (by rw [jn_comm rs q p]; omega) d2 d1 (by rw [gr_comm, dist_comm rs q p]; omega) (by rw [dist_comm rs q p, jn_comm rs q p]; omega) (by omega) (by omega) (by omega)
          rw [gr_comm] at this
          exact this.symm
    have a := tw_tw h hx (i := dist rs p x - gr rs x p q) (k := gr rs x p q - s) (by omega)
    have b := tw_tw hq hx (i := dist rs q x - gr rs x p q) (k := gr rs x p q - s) (by omega)
    rw [show dist rs p x - gr rs x p q + (gr rs x p q - s) = dist rs p x - s by omega] at a
    rw [show dist rs q x - gr rs x p q + (gr rs x p q - s) = dist rs q x - s by omega] at b
    rw [← a, ← b, top]
end
end Tw
/-! P7: the rule Both, by steps and by changes. -/
namespace Tw
abbrev at_ (c : List Pt) (i : Nat) : Pt := c.getD i (0, 0)
/-- p is on the way of q to x -/
def onw (rs : Rds) (x q p : Pt) : Prop := dist rs q p + dist rs p x = dist rs q x
/-- j stands between i and x -/
def Blk (rs : Rds) (x : Pt) (c : List Pt) (i j : Nat) : Prop := (at_ c j = at_ c i ∧ j < i) ∨ (at_ c j ≠ at_ c i ∧ onw rs x (at_ c i) (at_ c j))
def Sees (rs : Rds) (x : Pt) (c : List Pt) (i : Nat) : Prop := ∀ j, j < c.length → ¬ Blk rs x c i j
def Vc (rs : Rds) (c : List Pt) : Prop := ∀ q ∈ c, Vp rs q
section
variable {rs : Rds} {x : Pt} {c : List Pt}
theorem Vc.at_ (h : Vc rs c) {i : Nat} (hi : i < c.length) : Vp rs (Tw.at_ c i) := by
  rw [Tw.at_, List.getD_eq_getElem?_getD, List.getElem?_eq_getElem hi]; exact h _ (List.getElem_mem hi)
theorem Vc.of {d : List Pt} (h : ∀ i, i < d.length → Vp rs (Tw.at_ d i)) : Vc rs d := fun q hq => by
  obtain ⟨i, hi, rfl⟩ := List.getElem_of_mem hq
  have := h i hi
  rwa [Tw.at_, List.getD_eq_getElem?_getD, List.getElem?_eq_getElem hi] at this
theorem ext_at {c d : List Pt} (hl : c.length = d.length) (h : ∀ i, i < c.length → at_ c i = at_ d i) : c = d := List.ext_getElem hl fun i h1 h2 => by
  have := h i h1
  rwa [at_, at_, List.getD_eq_getElem?_getD, List.getD_eq_getElem?_getD, List.getElem?_eq_getElem h1, List.getElem?_eq_getElem h2] at this
theorem map_at {n : Nat} {f : Nat → Pt} {i : Nat} (h : i < n) : at_ ((List.range n).map f) i = f i := by
  rw [at_, List.getD_eq_getElem?_getD, List.getElem?_map, List.getElem?_range h]; rfl
/-- on the way: by steps -/
theorem onw_iff {p q : Pt} (hq : Vp rs q) (hp_ : Vp rs p) (hx : Vp rs x) : onw rs x q p ↔ ∃ k, k ≤ dist rs q x ∧ p = tw rs q x k := on_tw hq hp_ hx
theorem onw_trans {p q r : Pt} (hp_ : Vp rs p) (hq : Vp rs q) (hr : Vp rs r) (hx : Vp rs x) (h1 : onw rs x p q) (h2 : onw rs x q r) : onw rs x p r := by
  have t1 := dist_tri hp_ hq hr
  have t2 := dist_tri hp_ hr hx
  unfold onw at *
  omega
open Classical in
noncomputable def seersL (rs : Rds) (x : Pt) (c : List Pt) : List Nat := (List.range c.length).filter fun i => decide (Sees rs x c i)
open Classical in
/-- all who see go k steps -/
noncomputable def stepK (rs : Rds) (x : Pt) (c : List Pt) (k : Nat) : List Pt := (List.range c.length).map fun i => if Sees rs x c i then tw rs (at_ c i) x k else at_ c i
theorem stepK_len (k : Nat) : (stepK rs x c k).length = c.length := by unfold stepK; simp
theorem stepK_sees {i k : Nat} (hi : i < c.length) (h : Sees rs x c i) : at_ (stepK rs x c k) i = tw rs (at_ c i) x k := by
  unfold stepK; rw [map_at hi, if_pos h]
theorem stepK_not {i k : Nat} (hi : i < c.length) (h : ¬ Sees rs x c i) : at_ (stepK rs x c k) i = at_ c i := by
  unfold stepK; rw [map_at hi, if_neg h]
theorem stepK_vc (hc : Vc rs c) (hx : Vp rs x) (k : Nat) : Vc rs (stepK rs x c k) := Vc.of fun i hi => by
  rw [stepK_len] at hi
  by_cases h : Sees rs x c i
  · rw [stepK_sees hi h]; exact tw_vp (hc.at_ hi) hx k
  · rw [stepK_not hi h]; exact hc.at_ hi
theorem stepK_zero : stepK rs x c 0 = c := ext_at (stepK_len 0) fun i hi => by
  rw [stepK_len] at hi
  by_cases h : Sees rs x c i
  · rw [stepK_sees hi h, tw_zero]
  · rw [stepK_not hi h]
/-- where one stands behind k steps, it is on its way -/
theorem stepK_on (hc : Vc rs c) (hx : Vp rs x) {i k : Nat} (hi : i < c.length) (hk : k ≤ dist rs (at_ c i) x) : onw rs x (at_ c i) (at_ (stepK rs x c k) i) := by
  by_cases h : Sees rs x c i
  · rw [stepK_sees hi h]; exact (onw_iff (hc.at_ hi) (tw_vp (hc.at_ hi) hx k) hx).mpr ⟨k, hk, rfl⟩
  · rw [stepK_not hi h]; unfold onw; rw [dist_self]; omega
theorem not_sees (h : ¬ Sees rs x c i) : ∃ j, j < c.length ∧ Blk rs x c i j := by
  by_cases e : ∃ j, j < c.length ∧ Blk rs x c i j
  · exact e
  · exact absurd (fun j hj b => e ⟨j, hj, b⟩) h
/-- who does not see will not see -/
theorem blind (hc : Vc rs c) (hx : Vp rs x) {i k : Nat} (hi : i < c.length) (h : ¬ Sees rs x c i) (hk : ∀ j, j < c.length → Sees rs x c j → k ≤ dist rs (at_ c j) x) : ¬ Sees rs x (stepK rs x c k) i := by
  obtain ⟨j, hj, b⟩ := not_sees h
  intro s
  refine s j (by rw [stepK_len]; exact hj) ?_
  have vi := hc.at_ hi
  have vj := hc.at_ hj
  unfold Blk
  rw [stepK_not hi h]
  by_cases sj : Sees rs x c j
  · have kj := hk j hj sj
    rw [stepK_sees hj sj]
    obtain ⟨d1, d2⟩ := tw_dist vj hx kj
    have o2 : onw rs x (at_ c j) (tw rs (at_ c j) x k) := (onw_iff vj (tw_vp vj hx k) hx).mpr ⟨k, kj, rfl⟩
    rcases b with ⟨e, lt⟩ | ⟨ne, on⟩
    · rw [e] at o2 ⊢
      by_cases e2 : tw rs (at_ c i) x k = at_ c i
      · exact .inl ⟨e2, lt⟩
      · exact .inr ⟨e2, o2⟩
    · have on2 := onw_trans vi vj (tw_vp vj hx k) hx on o2
      refine .inr ⟨fun e => ?_, on2⟩
      have p1 := dist_pos vi vj (fun z => ne z.symm)
      have : dist rs (at_ c i) x = dist rs (at_ c j) x - k := by rw [← d1, e]
      unfold onw at on
      omega
  · rw [stepK_not hj sj]
    exact b
/-- nothing changes ahead of far -/
def Far (rs : Rds) (x : Pt) (c : List Pt) (far : Nat) : Prop := (∀ i, i < c.length → Sees rs x c i → far ≤ dist rs (at_ c i) x) ∧ ∀ i j, i < c.length → j < c.length → i ≠ j → Sees rs x c i → Sees rs x c j → far + gr rs x (at_ c i) (at_ c j) ≤ dist rs (at_ c j) x
theorem stepK_same (hc : Vc rs c) (hx : Vp rs x) {far k : Nat} (hf : Far rs x c far) (hk : k < far) {i : Nat} (hi : i < c.length) : Sees rs x (stepK rs x c k) i ↔ Sees rs x c i := by
  have hk1 : ∀ j, j < c.length → Sees rs x c j → k ≤ dist rs (at_ c j) x := fun j hj sj => by have := hf.1 j hj sj; omega
  constructor
  · intro s
    by_cases h : Sees rs x c i
    · exact h
    · exact absurd s (blind hc hx hi h hk1)
  · intro s j hj b
    rw [stepK_len] at hj
    have vi := hc.at_ hi
    have vj := hc.at_ hj
    have ki := hk1 i hi s
    obtain ⟨d1, d2⟩ := tw_dist vi hx ki
    have vti := tw_vp vi hx k
    -- j's place is on i's way, at least k steps on
    have key : ∃ m, k + m ≤ dist rs (at_ c i) x ∧ at_ (stepK rs x c k) j = tw rs (at_ c i) x (k + m) ∧ (m = 0 → j < i) := by
      unfold Blk at b
      rw [stepK_sees hi s] at b
      rcases b with ⟨e, lt⟩ | ⟨ne, on⟩
      · exact ⟨0, by omega, by rw [Nat.add_zero]; exact e, fun _ => lt⟩
      · obtain ⟨m, hm, e⟩ := (onw_iff vti ((stepK_vc hc hx k).at_ (by rw [stepK_len]; exact hj)) hx).mp on
        rw [d1] at hm
        refine ⟨m, by omega, ?_, fun z => ?_⟩
        · rw [e]; exact tw_tw vi hx (by omega)
        · subst z; rw [tw_zero] at e; exact absurd e ne
    obtain ⟨m, hm, e, hlt⟩ := key
    obtain ⟨e1, e2⟩ := tw_dist vi hx hm
    by_cases sj : Sees rs x c j
    · rw [stepK_sees hj sj] at e
      have kj := hk1 j hj sj
      obtain ⟨f1, _⟩ := tw_dist vj hx kj
      by_cases ij : i = j
      · subst ij
        have : dist rs (at_ c i) x - k = dist rs (at_ c i) x - (k + m) := by rw [← f1, e, e1]
        have := hlt (by omega)
        omega
      · have f := hf.2 i j hi hj ij s sj
        have hs : dist rs (at_ c j) x - k = dist rs (at_ c i) x - (k + m) := by rw [← f1, e, e1]
        have := (gr_meet hx vi vj (s := dist rs (at_ c j) x - k) (by omega) (by omega)).mp (by
          rw [show dist rs (at_ c i) x - (dist rs (at_ c j) x - k) = k + m by omega, show dist rs (at_ c j) x - (dist rs (at_ c j) x - k) = k by omega]
          exact e.symm)
        omega
    · rw [stepK_not hj sj] at e
      refine s j hj ?_
      by_cases h0 : k + m = 0
      · refine .inl ⟨?_, hlt (by omega)⟩
        rw [e, h0, tw_zero]
      · refine .inr ⟨fun z => ?_, (onw_iff vi vj hx).mpr ⟨k + m, hm, e⟩⟩
        have : dist rs (at_ c i) x = dist rs (at_ c i) x - (k + m) := by rw [← e1, ← e, z]
        omega
/-- step by step: the crew and the way -/
noncomputable def run1 (rs : Rds) (x : Pt) (c : List Pt) : Nat → List Pt × Nat
  | 0 => (c, 0)
  | k + 1 => (stepK rs x (run1 rs x c k).1 1, (run1 rs x c k).2 + (seersL rs x (run1 rs x c k).1).length)
theorem run1_add (k : Nat) : ∀ m, run1 rs x c (k + m) = ((run1 rs x (run1 rs x c k).1 m).1, (run1 rs x c k).2 + (run1 rs x (run1 rs x c k).1 m).2)
  | 0 => rfl
  | m + 1 => by
    show run1 rs x c (k + m + 1) = _
    rw [run1, run1_add k m, run1]
    simp only [Prod.mk.injEq, true_and]
    omega
theorem run1_len : ∀ k, (run1 rs x c k).1.length = c.length
  | 0 => rfl
  | k + 1 => by rw [run1]; show (stepK _ _ _ _).length = _; rw [stepK_len, run1_len k]
theorem run1_vc (hc : Vc rs c) (hx : Vp rs x) : ∀ k, Vc rs (run1 rs x c k).1
  | 0 => hc
  | k + 1 => by rw [run1]; exact stepK_vc (run1_vc hc hx k) hx 1
theorem seersL_congr {d : List Pt} (hl : d.length = c.length) (h : ∀ i, i < c.length → (Sees rs x d i ↔ Sees rs x c i)) : seersL rs x d = seersL rs x c := by
  unfold seersL
  rw [hl]
  exact List.filter_congr fun i hi => decide_eq_decide.mpr (h i (List.mem_range.mp hi))
/-- many steps at once -/
theorem run1_far (hc : Vc rs c) (hx : Vp rs x) {far : Nat} (hf : Far rs x c far) : ∀ k, k ≤ far → run1 rs x c k = (stepK rs x c k, k * (seersL rs x c).length)
  | 0, _ => by rw [stepK_zero]; simp [run1]
  | k + 1, hk => by
    have ih := run1_far hc hx hf k (by omega)
    have same := fun i (hi : i < c.length) => stepK_same hc hx hf (k := k) (by omega) hi
    rw [run1, ih]
    refine Prod.ext ?_ ?_
    · refine ext_at (by rw [stepK_len, stepK_len, stepK_len]) fun i hi => ?_
      rw [stepK_len, stepK_len] at hi
      have hi2 : i < (stepK rs x c k).length := by rw [stepK_len]; exact hi
      by_cases h : Sees rs x c i
      · rw [stepK_sees hi2 ((same i hi).mpr h), stepK_sees hi h, stepK_sees hi h]
        exact tw_tw (hc.at_ hi) hx (by have := hf.1 i hi h; omega)
      · rw [stepK_not hi2 (fun z => h ((same i hi).mp z)), stepK_not hi h, stepK_not hi h]
    · show k * _ + (seersL rs x (stepK rs x c k)).length = (k + 1) * _
      rw [seersL_congr (stepK_len k) same, Nat.add_mul, Nat.one_mul]
theorem idxOf_le' {a : Nat} : ∀ {xs : List Nat} {j : Nat}, xs[j]? = some a → xs.idxOf a ≤ j
  | [], _, h => by simp at h
  | y :: ys, 0, h => by
    have e : y = a := by simpa using h
    rw [List.idxOf_cons, e]; simp
  | y :: ys, j + 1, h => by
    have ih := idxOf_le' (xs := ys) (j := j) (by simpa using h)
    rw [List.idxOf_cons]
    by_cases e : (y == a) = true
    · simp [e]
    · simp [e]; exact ih
/-- the nearest one sees, and comes nearer -/
theorem at_ways {i : Nat} (hi : i < c.length) : dist rs (at_ c i) x ∈ ways rs c x := by
  unfold ways
  refine List.mem_map.mpr ⟨c[i], List.getElem_mem hi, ?_⟩
  rw [at_, List.getD_eq_getElem?_getD, List.getElem?_eq_getElem hi]; rfl
theorem least_at (h0 : c ≠ []) : ∃ i, i < c.length ∧ dist rs (at_ c i) x = leastN (ways rs c x) ∧ ∀ j, j < i → leastN (ways rs c x) < dist rs (at_ c j) x := by
  have w0 : ways rs c x ≠ [] := fun e => h0 (List.map_eq_nil_iff.mp e)
  have hm := leastN_mem w0
  have hi := nearI_lt (rs := rs) (call := x) h0
  have atw : ∀ j, j < c.length → (ways rs c x)[j]? = some (dist rs (at_ c j) x) := fun j hj => by
    unfold ways
    rw [List.getElem?_map, List.getElem?_eq_getElem hj, at_, List.getD_eq_getElem?_getD, List.getElem?_eq_getElem hj]; rfl
  refine ⟨nearI rs c x, hi, ?_, fun j hj => ?_⟩
  · have hl := List.idxOf_lt_length_of_mem hm
    have e := List.getElem_idxOf hl
    have := atw _ hi
    unfold nearI at this
    rw [List.getElem?_eq_getElem hl, e] at this
    exact (Option.some.inj this).symm
  · have hjc : j < c.length := by omega
    have h1 := leastN_le (at_ways (rs := rs) (x := x) hjc)
    by_cases e : dist rs (at_ c j) x = leastN (ways rs c x)
    · exfalso
      have h2 : (ways rs c x)[j]? = some (leastN (ways rs c x)) := by rw [atw j hjc, e]
      have hj2 : j < (ways rs c x).length := by rw [ways_len]; exact hjc
      have := idxOf_le' h2
      unfold nearI at hj
      omega
    · omega
theorem least_sees (hc : Vc rs c) (hx : Vp rs x) {i : Nat} (hi : i < c.length) (h1 : dist rs (at_ c i) x = leastN (ways rs c x)) (h2 : ∀ j, j < i → leastN (ways rs c x) < dist rs (at_ c j) x) : Sees rs x c i := fun j hj b => by
  have := leastN_le (at_ways (rs := rs) (x := x) hj)
  rcases b with ⟨e, lt⟩ | ⟨ne, on⟩
  · have := h2 j lt
    rw [e] at this
    omega
  · have := dist_pos (hc.at_ hi) (hc.at_ hj) (fun z => ne z.symm)
    unfold onw at on
    omega
theorem leastN_of {xs : List Nat} {m : Nat} (h : m ∈ xs) (k : ∀ y ∈ xs, m ≤ y) : leastN xs = m := by
  have h1 := leastN_le h
  have h2 := k _ (leastN_mem (fun e => by rw [e] at h; simp at h))
  omega
theorem least_step (hc : Vc rs c) (hx : Vp rs x) (h0 : c ≠ []) (h1 : 1 ≤ leastN (ways rs c x)) : leastN (ways rs (stepK rs x c 1) x) + 1 = leastN (ways rs c x) := by
  obtain ⟨i, hi, e1, e2⟩ := least_at (rs := rs) (x := x) h0
  have s := least_sees hc hx hi e1 e2
  have hi2 : i < (stepK rs x c 1).length := by rw [stepK_len]; exact hi
  have d1 : dist rs (at_ (stepK rs x c 1) i) x = leastN (ways rs c x) - 1 := by
    rw [stepK_sees hi s, (tw_dist (hc.at_ hi) hx (by omega)).1, e1]
  have : leastN (ways rs (stepK rs x c 1) x) = leastN (ways rs c x) - 1 := by
    refine leastN_of (by rw [← d1]; exact at_ways hi2) fun y hy => ?_
    unfold ways at hy
    obtain ⟨q, hq, rfl⟩ := List.mem_map.mp hy
    obtain ⟨j, hj, rfl⟩ := List.getElem_of_mem hq
    have hj' : j < c.length := by rw [stepK_len] at hj; exact hj
    have le := leastN_le (at_ways (rs := rs) (x := x) hj')
    have ea : (stepK rs x c 1)[j] = at_ (stepK rs x c 1) j := by rw [at_, List.getD_eq_getElem?_getD, List.getElem?_eq_getElem hj]; rfl
    rw [ea]
    by_cases sj : Sees rs x c j
    · rw [stepK_sees hj' sj, (tw_dist (hc.at_ hj') hx (by omega)).1]; omega
    · rw [stepK_not hj' sj]; omega
  omega
theorem least_run (hc : Vc rs c) (hx : Vp rs x) (h0 : c ≠ []) : ∀ k, k ≤ leastN (ways rs c x) → leastN (ways rs (run1 rs x c k).1 x) + k = leastN (ways rs c x)
  | 0, _ => rfl
  | k + 1, hk => by
    have ih := least_run hc hx h0 k (by omega)
    have l := run1_len (rs := rs) (x := x) (c := c) k
    have := least_step (run1_vc hc hx k) hx (fun e => h0 (List.length_eq_zero_iff.mp (by rw [← l, e]; rfl))) (by omega)
    rw [run1]
    show leastN (ways rs (stepK rs x (run1 rs x c k).1 1) x) + (k + 1) = _
    omega
theorem least_zero (hc : Vc rs c) (hx : Vp rs x) (h0 : c ≠ []) : leastN (ways rs c x) = 0 ↔ x ∈ c := by
  constructor
  · intro h
    obtain ⟨i, hi, e1, _⟩ := least_at (rs := rs) (x := x) h0
    have := dist_zero (hc.at_ hi) hx (by omega)
    rw [← this, at_, List.getD_eq_getElem?_getD, List.getElem?_eq_getElem hi]
    exact List.getElem_mem hi
  · intro h
    have : dist rs x x ∈ ways rs c x := List.mem_map.mpr ⟨x, h, rfl⟩
    have := leastN_le this
    rw [dist_self] at this
    omega
/-- Both -/
noncomputable def bothS (rs : Rds) (x : Pt) (c : List Pt) : List Pt × Nat := run1 rs x c (leastN (ways rs c x))
theorem bothS_len : (bothS rs x c).1.length = c.length := run1_len _
theorem bothS_vc (hc : Vc rs c) (hx : Vp rs x) : Vc rs (bothS rs x c).1 := run1_vc hc hx _
theorem bothS_at (hc : Vc rs c) (hx : Vp rs x) (h0 : c ≠ []) : x ∈ (bothS rs x c).1 := by
  have := least_run hc hx h0 _ (Nat.le_refl _)
  refine (least_zero (bothS_vc hc hx) hx fun e => h0 (List.length_eq_zero_iff.mp ?_)).mp (by unfold bothS; omega)
  rw [← bothS_len (rs := rs) (x := x) (c := c), e]; rfl
/-- seers differ -/
theorem sees_far (hc : Vc rs c) (hx : Vp rs x) {i j : Nat} (hi : i < c.length) (hj : j < c.length) (ij : i ≠ j) (si : Sees rs x c i) (sj : Sees rs x c j) : gr rs x (at_ c i) (at_ c j) < dist rs (at_ c j) x := by
  have vi := hc.at_ hi
  have vj := hc.at_ hj
  have gl := gr_le hx vi vj
  have g2 := gr_two hx vi vj
  by_cases e : gr rs x (at_ c i) (at_ c j) = dist rs (at_ c j) x
  · exfalso
    have on : onw rs x (at_ c i) (at_ c j) := by unfold onw; omega
    by_cases e2 : at_ c j = at_ c i
    · by_cases lt : j < i
      · exact si j hj (.inl ⟨e2, lt⟩)
      · exact sj i hi (.inl ⟨e2.symm, by omega⟩)
    · exact si j hj (.inr ⟨e2, on⟩)
  · omega
end
end Tw
namespace Tw
/-! climbing by whole roads -/
theorem sts_in {rs : Rds} {v : Nat} (h0 : v ≠ 0) : ∀ (k u : Nat), u + k < len rs v → sts rs k (v, u) = (v, u + k)
  | 0, _, _ => rfl
  | k + 1, u, h => by
    have e : st rs (v, u) = (v, u + 1) := by unfold st; rw [if_neg h0, if_neg (by show ¬ u + 1 = len rs v; omega)]
    show sts rs k (st rs (v, u)) = _
    rw [e, sts_in h0 k (u + 1) (by omega), show u + 1 + k = u + (k + 1) by omega]
theorem sts_up {rs : Rds} {v u : Nat} (h0 : v ≠ 0) (h : u < len rs v) : sts rs (len rs v - u) (v, u) = (par rs v, 0) := by
  have e := sts_in (rs := rs) h0 (len rs v - u - 1) u (by omega)
  rw [show len rs v - u = (len rs v - u - 1) + 1 by omega, ← sts_one, e]
  unfold st
  rw [if_neg h0, if_pos (by show u + (len rs v - u - 1) + 1 = len rs v; omega)]
end Tw
/-! P8: who sees: a cut of all ways. -/
namespace Tw
theorem filter_single {p : Nat → Bool} {j : Nat} : ∀ {xs : List Nat}, xs.Nodup → j ∈ xs → p j = true → (∀ k, k ∈ xs → p k = true → k = j) → xs.filter p = [j]
  | [], _, h, _, _ => by simp at h
  | y :: ys, nd, h, pj, u => by
    obtain ⟨n1, n2⟩ := List.nodup_cons.mp nd
    by_cases e : y = j
    · subst e
      rw [List.filter_cons, if_pos pj]
      congr 1
      rw [List.filter_eq_nil_iff]
      intro k hk pk
      have := u k (List.mem_cons_of_mem _ hk) pk
      subst this
      exact n1 hk
    · rw [List.filter_cons, if_neg fun py => e (u y List.mem_cons_self py)]
      refine filter_single n2 ?_ pj fun k hk => u k (List.mem_cons_of_mem _ hk)
      rcases List.mem_cons.mp h with r | r
      · exact absurd r.symm e
      · exact r
section
variable {rs : Rds} {x : Pt} {c : List Pt}
open Classical in
theorem mem_seersL {i : Nat} : i ∈ seersL rs x c ↔ i < c.length ∧ Sees rs x c i := by
  unfold seersL
  rw [List.mem_filter, List.mem_range, decide_eq_true_eq]
theorem seersL_nodup : (seersL rs x c).Nodup := List.nodup_range.filter _
theorem seersL_lt : (seersL rs x c).Pairwise (· < ·) := List.pairwise_lt_range.filter _
theorem seersL_len : (seersL rs x c).length ≤ c.length := Nat.le_trans (List.length_filter_le _ _) (by simp)
theorem onw_self {p : Pt} : onw rs x p p := by unfold onw; rw [dist_self]; omega
theorem seer_of (hc : Vc rs c) (hx : Vp rs x) : ∀ (m i : Nat), i < c.length → dist rs (at_ c i) x * c.length + i ≤ m → ∃ j, j < c.length ∧ Sees rs x c j ∧ onw rs x (at_ c i) (at_ c j) ∧ (at_ c j = at_ c i → j ≤ i) := by
  intro m
  induction m with
  | zero =>
    intro i hi hm
    by_cases s : Sees rs x c i
    · exact ⟨i, hi, s, onw_self, fun _ => Nat.le_refl _⟩
    · obtain ⟨k, hk, b⟩ := not_sees s
      exfalso
      have hd : dist rs (at_ c i) x = 0 := by
        rcases Nat.eq_zero_or_pos (dist rs (at_ c i) x) with h | h
        · exact h
        · have := Nat.mul_pos h (show 0 < c.length by omega); omega
      rcases b with ⟨_, lt⟩ | ⟨ne, on⟩
      · omega
      · have := dist_pos (hc.at_ hi) (hc.at_ hk) (fun z => ne z.symm)
        unfold onw at on
        omega
  | succ m ih =>
    intro i hi hm
    by_cases s : Sees rs x c i
    · exact ⟨i, hi, s, onw_self, fun _ => Nat.le_refl _⟩
    · obtain ⟨k, hk, b⟩ := not_sees s
      rcases b with ⟨e, lt⟩ | ⟨ne, on⟩
      · obtain ⟨j, h1, h2, h3, h4⟩ := ih k hk (by rw [e]; omega)
        rw [e] at h3 h4
        exact ⟨j, h1, h2, h3, fun z => by have := h4 z; omega⟩
      · have p1 := dist_pos (hc.at_ hi) (hc.at_ hk) (fun z => ne z.symm)
        have lt : dist rs (at_ c k) x < dist rs (at_ c i) x := by unfold onw at on; omega
        have : dist rs (at_ c k) x * c.length + c.length ≤ dist rs (at_ c i) x * c.length := by
          have := Nat.mul_le_mul_right c.length (show dist rs (at_ c k) x + 1 ≤ dist rs (at_ c i) x by omega)
          rw [Nat.add_mul, Nat.one_mul] at this
          exact this
        obtain ⟨j, h1, h2, h3, h4⟩ := ih k hk (by omega)
        refine ⟨j, h1, h2, onw_trans (hc.at_ hi) (hc.at_ hk) (hc.at_ h1) hx on h3, fun z => ?_⟩
        exfalso
        rw [z] at h3
        unfold onw at h3
        omega
/-- two on one way: one is on the way of the other -/
theorem onw_chain {p q r : Pt} (hp_ : Vp rs p) (hq : Vp rs q) (hr : Vp rs r) (hx : Vp rs x) (h1 : onw rs x p q) (h2 : onw rs x p r) (h : dist rs r x ≤ dist rs q x) : onw rs x q r := by
  obtain ⟨a, ha, e1⟩ := (onw_iff hp_ hq hx).mp h1
  obtain ⟨b, hb, e2⟩ := (onw_iff hp_ hr hx).mp h2
  have d1 := (tw_dist hp_ hx ha).1
  have d2 := (tw_dist hp_ hx hb).1
  rw [← e1] at d1
  rw [← e2] at d2
  refine (onw_iff hq hr hx).mpr ⟨b - a, by omega, ?_⟩
  rw [e1, tw_tw hp_ hx (by omega), e2]
  congr 1; omega
open Classical in
theorem seers_cut (hc : Vc rs c) (hx : Vp rs x) {i : Nat} (hi : i < c.length) : ∃ j, j < c.length ∧ (seersL rs x c).filter (fun j => decide (onw rs x (at_ c i) (at_ c j))) = [j] ∧ (at_ c j = at_ c i → j ≤ i) := by
  obtain ⟨j, h1, h2, h3, h4⟩ := seer_of hc hx _ i hi (Nat.le_refl _)
  refine ⟨j, h1, filter_single seersL_nodup (mem_seersL.mpr ⟨h1, h2⟩) (decide_eq_true h3) fun k hk pk => ?_, h4⟩
  obtain ⟨k1, k2⟩ := mem_seersL.mp hk
  have k3 := of_decide_eq_true pk
  have both : ∀ {j k : Nat}, j < c.length → k < c.length → Sees rs x c k → onw rs x (at_ c i) (at_ c j) → onw rs x (at_ c i) (at_ c k) → at_ c j ≠ at_ c k → dist rs (at_ c j) x ≤ dist rs (at_ c k) x → False := fun {j k} h1 k1 k2 h3 k3 ne le =>
    k2 j h1 (.inr ⟨ne, onw_chain (hc.at_ hi) (hc.at_ k1) (hc.at_ h1) hx k3 h3 le⟩)
  by_cases e : at_ c j = at_ c k
  · rcases Nat.lt_trichotomy j k with lt | rfl | lt
    · exact absurd (.inl ⟨e, lt⟩) (k2 j h1)
    · rfl
    · exact absurd (.inl ⟨e.symm, lt⟩) (h2 k k1)
  · rcases Nat.le_total (dist rs (at_ c j) x) (dist rs (at_ c k) x) with le | le
    · exact (both h1 k1 k2 h3 k3 e le).elim
    · exact (both k1 h1 h2 k3 h3 (fun z => e z.symm) le).elim
theorem idxOf_at (h : x ∈ c) : c.idxOf x < c.length ∧ at_ c (c.idxOf x) = x ∧ ∀ j, j < c.idxOf x → at_ c j ≠ x := by
  have hl := List.idxOf_lt_length_of_mem h
  refine ⟨hl, ?_, fun j hj e => ?_⟩
  · show c.getD _ _ = _
    rw [List.getD_eq_getElem?_getD, List.getElem?_eq_getElem hl, List.getElem_idxOf hl]; rfl
  · have hjl : j < c.length := by omega
    have e2 : c[j] = x := by
      have e' : c.getD j (0, 0) = x := e
      rw [List.getD_eq_getElem?_getD, List.getElem?_eq_getElem hjl] at e'
      exact e'
    have key : ∀ (xs : List Pt) (j : Nat) (h : j < xs.length), xs[j] = x → xs.idxOf x ≤ j := by
      intro xs
      induction xs with
      | nil => intro j h; simp at h
      | cons y ys ih =>
        intro j h e
        rw [List.idxOf_cons]
        by_cases ey : (y == x) = true
        · simp [ey]
        · cases j with
          | zero => exact absurd (by simpa using e) (by simpa using ey)
          | succ j => simp [ey]; exact ih j (by simpa using h) (by simpa using e)
    have := key c j hjl e2
    omega
open Classical in
theorem seers_at (hc : Vc rs c) (hx : Vp rs x) (h : x ∈ c) : seersL rs x c = [c.idxOf x] := by
  obtain ⟨h1, h2, h3⟩ := idxOf_at h
  unfold seersL
  refine filter_single List.nodup_range (List.mem_range.mpr h1) (decide_eq_true fun j hj b => ?_) fun k hk pk => ?_
  · rcases b with ⟨e, lt⟩ | ⟨ne, on⟩
    · exact h3 j lt (e.trans h2)
    · rw [h2] at on ne
      unfold onw at on
      rw [dist_self] at on
      exact ne (dist_zero (hc.at_ hj) hx (by omega))
  · have s := of_decide_eq_true pk
    have hk := List.mem_range.mp hk
    have nb := s _ h1
    by_cases e : at_ c k = x
    · by_cases lt : c.idxOf x < k
      · exact absurd (.inl ⟨by rw [h2, e], lt⟩) nb
      · by_cases e2 : k = c.idxOf x
        · exact e2
        · exact absurd e (h3 k (by omega))
    · refine absurd (.inr ⟨by rw [h2]; exact fun z => e z.symm, ?_⟩) nb
      rw [h2]
      unfold onw
      rw [dist_self]; omega
end
end Tw
/-! P9: how far each helper goes under Both. -/
namespace Tw
section
variable {rs : Rds} {x : Pt} {c : List Pt}
open Classical in
/-- the steps that i has gone at time k -/
noncomputable def mv (rs : Rds) (x : Pt) (c : List Pt) : Nat → Nat → Nat
  | 0, _ => 0
  | k + 1, i => mv rs x c k i + if Sees rs x (run1 rs x c k).1 i then 1 else 0
theorem mv_le (k i : Nat) : mv rs x c k i ≤ k := by
  induction k with
  | zero => exact Nat.le_refl _
  | succ k ih =>
    rw [mv]
    split <;> omega
theorem mv_succ_sees {k i : Nat} (h : Sees rs x (run1 rs x c k).1 i) : mv rs x c (k + 1) i = mv rs x c k i + 1 := by rw [mv, if_pos h]
theorem mv_succ_not {k i : Nat} (h : ¬ Sees rs x (run1 rs x c k).1 i) : mv rs x c (k + 1) i = mv rs x c k i := by rw [mv, if_neg h]; rfl
theorem at_least {i : Nat} (hi : i < c.length) : leastN (ways rs c x) ≤ dist rs (at_ c i) x := leastN_le (at_ways hi)
/-- where i stands at time k -/
theorem mv_at (hc : Vc rs c) (hx : Vp rs x) {i : Nat} (hi : i < c.length) : ∀ k, k ≤ leastN (ways rs c x) → at_ (run1 rs x c k).1 i = tw rs (at_ c i) x (mv rs x c k i)
  | 0, _ => by rw [mv, tw_zero]; rfl
  | k + 1, hk => by
    have ih := mv_at hc hx hi k (by omega)
    have hi2 : i < (run1 rs x c k).1.length := by rw [run1_len]; exact hi
    have al := at_least (rs := rs) (x := x) hi
    have ml := mv_le (rs := rs) (x := x) (c := c) k i
    rw [run1]
    show at_ (stepK rs x (run1 rs x c k).1 1) i = _
    by_cases h : Sees rs x (run1 rs x c k).1 i
    · rw [stepK_sees hi2 h, mv_succ_sees h, ih, tw_tw (hc.at_ hi) hx (by omega)]
    · rw [stepK_not hi2 h, mv_succ_not h, ih]
theorem mv_dist (hc : Vc rs c) (hx : Vp rs x) {i k : Nat} (hi : i < c.length) (hk : k ≤ leastN (ways rs c x)) : dist rs (at_ (run1 rs x c k).1 i) x = dist rs (at_ c i) x - mv rs x c k i ∧ dist rs (at_ c i) (at_ (run1 rs x c k).1 i) = mv rs x c k i := by
  rw [mv_at hc hx hi k hk]
  have al := at_least (rs := rs) (x := x) hi
  have ml := mv_le (rs := rs) (x := x) (c := c) k i
  exact tw_dist (hc.at_ hi) hx (by omega)
/-- who does not see stays -/
theorem blind_run (hc : Vc rs c) (hx : Vp rs x) (h0 : c ≠ []) {i k : Nat} (hi : i < c.length) (h : ¬ Sees rs x (run1 rs x c k).1 i) : ∀ d, k + d ≤ leastN (ways rs c x) → ¬ Sees rs x (run1 rs x c (k + d)).1 i ∧ mv rs x c (k + d) i = mv rs x c k i
  | 0, _ => ⟨h, rfl⟩
  | d + 1, hd => by
    obtain ⟨h1, h2⟩ := blind_run hc hx h0 hi h d (by omega)
    have vr := run1_vc hc hx (k + d)
    have lr := least_run hc hx h0 (k + d) (by omega)
    refine ⟨?_, by rw [← Nat.add_assoc, mv_succ_not h1]; exact h2⟩
    rw [← Nat.add_assoc, run1]
    refine blind vr hx (by rw [run1_len]; exact hi) h1 fun j hj _ => ?_
    have := at_least (rs := rs) (x := x) hj
    omega
theorem mv_blind (hc : Vc rs c) (hx : Vp rs x) (h0 : c ≠ []) {i k l : Nat} (hi : i < c.length) (h : ¬ Sees rs x (run1 rs x c k).1 i) (hkl : k ≤ l) (hl : l ≤ leastN (ways rs c x)) : mv rs x c l i = mv rs x c k i := by
  have := (blind_run hc hx h0 hi h (l - k) (by omega)).2
  rwa [show k + (l - k) = l by omega] at this
theorem mv_mono {k i : Nat} : ∀ d, mv rs x c k i ≤ mv rs x c (k + d) i
  | 0 => Nat.le_refl _
  | d + 1 => by
    have := mv_mono (k := k) (i := i) d
    rw [← Nat.add_assoc, mv]
    split <;> omega
theorem mv_mono' {k l i : Nat} (h : k ≤ l) : mv rs x c k i ≤ mv rs x c l i := by
  have := mv_mono (rs := rs) (x := x) (c := c) (k := k) (i := i) (l - k)
  rwa [show k + (l - k) = l by omega] at this
/-- all the way, or blind from a moment on -/
theorem mv_or (hc : Vc rs c) (hx : Vp rs x) (h0 : c ≠ []) {i : Nat} (hi : i < c.length) : ∀ k, k ≤ leastN (ways rs c x) → mv rs x c k i = k ∨ ∃ t, t < k ∧ mv rs x c t i = t ∧ mv rs x c k i = t ∧ ¬ Sees rs x (run1 rs x c t).1 i
  | 0, _ => .inl rfl
  | k + 1, hk => by
    rcases mv_or hc hx h0 hi k (by omega) with e | ⟨t, h1, h2, h3, h4⟩
    · by_cases s : Sees rs x (run1 rs x c k).1 i
      · exact .inl (by rw [mv_succ_sees s, e])
      · exact .inr ⟨k, by omega, e, by rw [mv_succ_not s]; exact e, s⟩
    · refine .inr ⟨t, by omega, h2, ?_, h4⟩
      rw [mv_blind hc hx h0 hi h4 (by omega) hk, h2]
/-- going on till k means going on before -/
theorem mv_full (hc : Vc rs c) (hx : Vp rs x) (h0 : c ≠ []) {i k l : Nat} (hi : i < c.length) (hkl : k ≤ l) (hl : l ≤ leastN (ways rs c x)) (h : k ≤ mv rs x c l i) : mv rs x c k i = k := by
  rcases mv_or hc hx h0 hi k (by omega) with e | ⟨t, h1, h2, h3, h4⟩
  · exact e
  · have := mv_blind hc hx h0 hi h4 (l := l) (by omega) hl
    omega
/-- i's steps to the place where it meets j's way -/
def own (rs : Rds) (x : Pt) (c : List Pt) (i j : Nat) : Nat := dist rs (at_ c i) x - gr rs x (at_ c i) (at_ c j)
/-- j comes there ahead of i -/
def Ahead (rs : Rds) (x : Pt) (c : List Pt) (i j : Nat) : Prop := own rs x c j i < own rs x c i j ∨ (own rs x c j i = own rs x c i j ∧ j < i)
theorem own_meet (hc : Vc rs c) (hx : Vp rs x) {i j : Nat} (hi : i < c.length) (hj : j < c.length) : tw rs (at_ c i) x (own rs x c i j) = tw rs (at_ c j) x (own rs x c j i) := by
  have vi := hc.at_ hi
  have vj := hc.at_ hj
  have gl := gr_le hx vi vj
  have := (gr_meet hx vi vj gl.1 gl.2).mpr (Nat.le_refl _)
  unfold own
  rw [gr_comm x (at_ c j) (at_ c i)]
  exact this
theorem own_two (hc : Vc rs c) (hx : Vp rs x) {i j : Nat} (hi : i < c.length) (hj : j < c.length) : 2 * own rs x c i j + dist rs (at_ c j) x = dist rs (at_ c i) x + dist rs (at_ c i) (at_ c j) := by
  have vi := hc.at_ hi
  have vj := hc.at_ hj
  have gl := gr_le hx vi vj
  have g2 := gr_two hx vi vj
  unfold own
  omega
theorem own_le {i j : Nat} : own rs x c i j ≤ dist rs (at_ c i) x := Nat.sub_le _ _
theorem stop_le (hc : Vc rs c) (hx : Vp rs x) (h0 : c ≠ []) {i j : Nat} (hi : i < c.length) (hj : j < c.length) (hg : own rs x c j i ≤ mv rs x c (leastN (ways rs c x)) j) (ha : Ahead rs x c i j) : mv rs x c (leastN (ways rs c x)) i ≤ own rs x c j i := by
  have vi := hc.at_ hi
  have vj := hc.at_ hj
  have wl := mv_le (rs := rs) (x := x) (c := c) (leastN (ways rs c x)) j
  have wi := mv_le (rs := rs) (x := x) (c := c) (leastN (ways rs c x)) i
  have ai := at_least (rs := rs) (x := x) hi
  by_cases lt : own rs x c j i < mv rs x c (leastN (ways rs c x)) i
  · exfalso
    have f1 := mv_full hc hx h0 hj (k := own rs x c j i) (by omega) (Nat.le_refl _) hg
    have f2 := mv_full hc hx h0 hi (k := own rs x c j i) (by omega) (Nat.le_refl _) (by omega)
    by_cases s : Sees rs x (run1 rs x c (own rs x c j i)).1 i
    · refine s j (by rw [run1_len]; exact hj) ?_
      unfold Blk
      rw [mv_at hc hx hi _ (by omega), mv_at hc hx hj _ (by omega), f1, f2, ← own_meet hc hx hi hj]
      rcases ha with ha | ⟨ha, hlt⟩
      · have o1 := own_le (rs := rs) (x := x) (c := c) (i := i) (j := j)
        have e := tw_tw vi hx (i := own rs x c j i) (k := own rs x c i j - own rs x c j i) (by omega)
        rw [show own rs x c j i + (own rs x c i j - own rs x c j i) = own rs x c i j by omega] at e
        have d1 := (tw_dist vi hx (k := own rs x c j i) (by omega)).1
        have d2 := (tw_dist vi hx (k := own rs x c i j) o1).1
        refine .inr ⟨fun z => ?_, (onw_iff (tw_vp vi hx _) (tw_vp vi hx _) hx).mpr ⟨own rs x c i j - own rs x c j i, by omega, e.symm⟩⟩
        rw [z] at d2
        omega
      · rw [ha]
        exact .inl ⟨rfl, hlt⟩
    · have := mv_blind hc hx h0 hi s (l := leastN (ways rs c x)) (by omega) (Nat.le_refl _)
      omega
  · omega
theorem stop_ge (hc : Vc rs c) (hx : Vp rs x) (h0 : c ≠ []) {i : Nat} (hi : i < c.length) : mv rs x c (leastN (ways rs c x)) i = leastN (ways rs c x) ∨ ∃ j, j < c.length ∧ j ≠ i ∧ own rs x c j i ≤ mv rs x c (leastN (ways rs c x)) j ∧ Ahead rs x c i j ∧ own rs x c j i ≤ mv rs x c (leastN (ways rs c x)) i := by
  have vi := hc.at_ hi
  have ai := at_least (rs := rs) (x := x) hi
  rcases mv_or hc hx h0 hi _ (Nat.le_refl _) with e | ⟨t, h1, h2, h3, h4⟩
  · exact .inl e
  · right
    obtain ⟨j, hj, b⟩ := not_sees h4
    rw [run1_len] at hj
    have vj := hc.at_ hj
    have aj := at_least (rs := rs) (x := x) hj
    have mb := mv_le (rs := rs) (x := x) (c := c) t j
    have mm := mv_mono' (rs := rs) (x := x) (c := c) (i := j) (show t ≤ leastN (ways rs c x) by omega)
    have pi_ := mv_at hc hx hi t (by omega)
    have pj := mv_at hc hx hj t (by omega)
    rw [h2] at pi_
    have vti := tw_vp vi hx t
    have d0 := (tw_dist vi hx (k := t) (by omega)).1
    have key : ∃ m, t + m ≤ dist rs (at_ c i) x ∧ tw rs (at_ c j) x (mv rs x c t j) = tw rs (at_ c i) x (t + m) ∧ (m = 0 → j < i) ∧ j ≠ i := by
      unfold Blk at b
      rw [pi_, pj] at b
      rcases b with ⟨e, lt⟩ | ⟨ne, on⟩
      · exact ⟨0, by omega, by rw [Nat.add_zero]; exact e, fun _ => lt, by omega⟩
      · obtain ⟨m, hm, e⟩ := (onw_iff vti (tw_vp vj hx _) hx).mp on
        rw [d0] at hm
        refine ⟨m, by omega, ?_, fun z => ?_, fun z => ?_⟩
        · rw [e]; exact tw_tw vi hx (by omega)
        · subst z; rw [tw_zero] at e; exact absurd e ne
        · subst z; rw [h2] at ne; exact ne rfl
    obtain ⟨m, hm, e, hlt, hne⟩ := key
    have d1 := (tw_dist vi hx hm).1
    have d2 := (tw_dist vj hx (k := mv rs x c t j) (by omega)).1
    rw [e, d1] at d2
    have gl := gr_le hx vi vj
    have gs := (gr_meet hx vi vj (s := dist rs (at_ c j) x - mv rs x c t j) (by omega) (by omega)).mp (by
      rw [show dist rs (at_ c i) x - (dist rs (at_ c j) x - mv rs x c t j) = t + m by omega, show dist rs (at_ c j) x - (dist rs (at_ c j) x - mv rs x c t j) = mv rs x c t j by omega]
      exact e.symm)
    have oj : own rs x c j i = dist rs (at_ c j) x - gr rs x (at_ c i) (at_ c j) := by unfold own; rw [gr_comm]
    have oi : own rs x c i j = dist rs (at_ c i) x - gr rs x (at_ c i) (at_ c j) := rfl
    refine ⟨j, hj, hne, by omega, ?_, by omega⟩
    by_cases na : Ahead rs x c i j
    · exact na
    · exfalso
      have nle : own rs x c i j ≤ own rs x c j i ∧ (own rs x c i j = own rs x c j i → i < j) := by
        unfold Ahead at na
        constructor
        · by_cases q : own rs x c j i < own rs x c i j
          · exact absurd (.inl q) na
          · omega
        · intro q
          by_cases q2 : j < i
          · exact absurd (.inr ⟨q.symm, q2⟩) na
          · omega
      have ot : own rs x c i j ≤ t := by omega
      have f1 := mv_full hc hx h0 hi (k := own rs x c i j) (l := t) ot (by omega) (by omega)
      have mo := mv_le (rs := rs) (x := x) (c := c) (own rs x c i j) j
      have blindj : ¬ Sees rs x (run1 rs x c (own rs x c i j)).1 j := fun s => by
        refine s i (by rw [run1_len]; exact hi) ?_
        unfold Blk
        rw [mv_at hc hx hi _ (by omega), mv_at hc hx hj _ (by omega), f1, own_meet hc hx hi hj]
        have oj1 := own_le (rs := rs) (x := x) (c := c) (i := j) (j := i)
        by_cases q : mv rs x c (own rs x c i j) j = own rs x c j i
        · rw [q]
          exact .inl ⟨rfl, nle.2 (by omega)⟩
        · have e3 := tw_tw vj hx (i := mv rs x c (own rs x c i j) j) (k := own rs x c j i - mv rs x c (own rs x c i j) j) (by omega)
          rw [show mv rs x c (own rs x c i j) j + (own rs x c j i - mv rs x c (own rs x c i j) j) = own rs x c j i by omega] at e3
          have d3 := (tw_dist vj hx (k := mv rs x c (own rs x c i j) j) (by omega)).1
          have d4 := (tw_dist vj hx (k := own rs x c j i) oj1).1
          refine .inr ⟨fun z => ?_, (onw_iff (tw_vp vj hx _) (tw_vp vj hx _) hx).mpr ⟨own rs x c j i - mv rs x c (own rs x c i j) j, by omega, e3.symm⟩⟩
          rw [z] at d4
          omega
      have := mv_blind hc hx h0 hj blindj (l := t) ot (by omega)
      have hm0 : m = 0 := by omega
      have := hlt hm0
      have := nle.2 (by omega)
      omega
open Classical in
theorem seers_sum : (seersL rs x c).length = ((List.range c.length).map fun i => if Sees rs x c i then 1 else 0).sum := by
  unfold seersL
  generalize c.length = n
  induction n with
  | zero => rfl
  | succ n ih =>
    rw [List.range_succ, List.filter_append, List.length_append, List.map_append, List.sum_append, ih]
    congr 1
    by_cases h : Sees rs x c n
    · rw [List.filter_cons, if_pos (decide_eq_true h)]; simp [h]
    · rw [List.filter_cons, if_neg (fun z => h (of_decide_eq_true z))]; simp [h]
theorem sum_add (f g : Nat → Nat) : ∀ n, ((List.range n).map fun i => f i + g i).sum = ((List.range n).map f).sum + ((List.range n).map g).sum
  | 0 => rfl
  | n + 1 => by
    rw [List.range_succ, List.map_append, List.map_append, List.map_append, List.sum_append, List.sum_append, List.sum_append, sum_add f g n]
    simp only [List.map_cons, List.map_nil, List.sum_cons, List.sum_nil]
    omega
theorem mv_sum : ∀ k, (run1 rs x c k).2 = ((List.range c.length).map fun i => mv rs x c k i).sum
  | 0 => by
    show 0 = _
    rw [show (fun i => mv rs x c 0 i) = fun _ => 0 from rfl]
    generalize c.length = n
    induction n with
    | zero => rfl
    | succ n ih => rw [List.range_succ, List.map_append, List.sum_append, ← ih]; rfl
  | k + 1 => by
    rw [run1]
    show (run1 rs x c k).2 + (seersL rs x (run1 rs x c k).1).length = _
    rw [mv_sum k, seers_sum, run1_len, ← sum_add]
    rfl
end
end Tw
/-! P10: many calls in a row. -/
namespace Tw
/-- one call under Nearest (true) or Both (false) -/
noncomputable def stepR (k : Bool) (rs : Rds) (c : List Pt) (x : Pt) : List Pt × Nat := if k = true then nearS rs c x else bothS rs x c
theorem stepR_len {k : Bool} {rs : Rds} {c : List Pt} {x : Pt} : (stepR k rs c x).1.length = c.length := by
  unfold stepR
  cases k with
  | true => exact nearS_len _ _ _
  | false => exact bothS_len
theorem stepR_vc {k : Bool} {rs : Rds} {c : List Pt} {x : Pt} (hc : Vc rs c) (hx : Vp rs x) : Vc rs (stepR k rs c x).1 := by
  unfold stepR
  cases k with
  | true => exact nearS_vp hc hx
  | false => exact bothS_vc hc hx
noncomputable def runS (k : Bool) (rs : Rds) : List Pt → List Pt → List Pt × Nat
  | c, [] => (c, 0)
  | c, x :: w => ((runS k rs (stepR k rs c x).1 w).1, (stepR k rs c x).2 + (runS k rs (stepR k rs c x).1 w).2)
theorem runS_len {k : Bool} {rs : Rds} : ∀ (w c : List Pt), (runS k rs c w).1.length = c.length
  | [], _ => rfl
  | x :: w, c => by rw [runS]; exact (runS_len w _).trans stepR_len
theorem runS_vc {k : Bool} {rs : Rds} : ∀ (w c : List Pt), Vc rs c → (∀ x ∈ w, Vp rs x) → Vc rs (runS k rs c w).1
  | [], _, h, _ => h
  | x :: w, c, h, hw => by
    rw [runS]
    exact runS_vc w _ (stepR_vc h (hw x List.mem_cons_self)) fun y hy => hw y (List.mem_cons_of_mem _ hy)
theorem runS_app {k : Bool} {rs : Rds} : ∀ (v w c : List Pt), runS k rs c (v ++ w) = ((runS k rs (runS k rs c v).1 w).1, (runS k rs c v).2 + (runS k rs (runS k rs c v).1 w).2)
  | [], w, c => by simp [runS]
  | x :: v, w, c => by
    rw [List.cons_append, runS, runS_app v w, runS]
    simp [Nat.add_assoc]
theorem sum_none {f : Nat → Nat} {m : Nat} : ∀ n, n ≤ m → ((List.range n).map fun i => if i = m then f i else 0).sum = 0
  | 0, _ => rfl
  | n + 1, h => by
    rw [List.range_succ, List.map_append, List.sum_append, sum_none n (by omega)]
    simp
    omega
theorem sum_one {f : Nat → Nat} {m : Nat} : ∀ {n}, m < n → ((List.range n).map fun i => if i = m then f i else 0).sum = f m
  | n + 1, h => by
    rw [List.range_succ, List.map_append, List.sum_append]
    by_cases q : n = m
    · subst q
      rw [sum_none n (Nat.le_refl _)]
      simp
    · rw [sum_one (n := n) (by omega)]
      simp
      omega
end Tw
namespace Lw
open PySem PySem.Spec L2 Sm
open Enc (enc)
def topS (i : Nat) : Stmt := PySem.Challenge.pw_bothcome_k28_whole_long_runs.main.body.getD i (.Pass ⟨0, 0, 0, 0⟩)
section
variable {Pr : Program} {w : World} {K : Fr} {mg : Str → Option Value} {base : Heap} {C : Nat → Addr}
abbrev clsR (C : Nat → Addr) : RuleD → Option Addr := fun d => match d with | .near => some (C 1) | .both => some (C 2)
/-! ### is_integer -/
abbrev is_integer_N : List Str := ["value"]
abbrev is_integer_ps : List Type := [Int]
abbrev is_integer_ls : List Type := []
abbrev is_integer_T : List Type := [Int]
abbrev is_integer_value : Var is_integer_T Int := .vz
abbrev is_integer_G (K : Fr) (C : Nat → Addr) (v0 : V) : RTs K is_integer_T := ((RT.dat K Int, ()) : RT K Int × RTs K [])
abbrev is_integer_Gr (K : Fr) (C : Nat → Addr) (v0 : V) : RTs K is_integer_T := ((RT.dead K Int, ()) : RT K Int × RTs K [])
abbrev is_integer_R (K : Fr) (C : Nat → Addr) : RT K Bool := RT.dat K Bool
noncomputable def is_integer_m : MS is_integer_T Bool := (sRet (mAnd (m1 (isT true) (mV is_integer_value)) (m1 bnot (m1 (isT false) (mV is_integer_value)))))
noncomputable abbrev is_integer_fs (K : Fr) (C : Nat → Addr) : Fs K := { ps := is_integer_ps, Γp := (((RT.dat K Int, ()) : RT K Int × RTs K []) : RTs K is_integer_ps), Γo := (((RT.dead K Int, ()) : RT K Int × RTs K []) : RTs K is_integer_ps), ρ := Bool, R := is_integer_R K C, f := (bodyF (ps := is_integer_ps) (ls := is_integer_ls) is_integer_m) }
theorem is_integer_sc : FnScope ["value"] ["value"] (defScope (topS 16)) := ⟨rfl, rfl, rfl, by decide +kernel, rfl, by decide +kernel, by decide +kernel⟩
theorem is_integer_ok {fa : Addr} {fd : FuncData} (F : Fun K "is_integer" "is_integer" (topS 16) fa fd) (TC0 : TC K (C 0)) (RU : RuA K mg (clsR C)) (z_isinstance : mg "isinstance" = none) (z_int : mg "int" = none) (z_bool : mg "bool" = none) : FnOk Pr w K mg base CX0 1 fa fd ["value"] (spF (is_integer_fs K C)) := by
  refine fs_ok (k := 0) F is_integer_sc (ps := is_integer_ps) (ls := is_integer_ls) (m := is_integer_m) rfl rfl fun cdv A outer s H vs E hl hr => ?_
  obtain ⟨v0, rfl⟩ := len1 hl
  have hu : (A.deeper (PyProof.Rows.envOfC "is_integer" (defScope (topS 16)) s.heap.objs.size fa cdv)).units + 65 < cLine := by have := hr.un; omega
  refine ⟨is_integer_G K C v0, is_integer_Gr K C v0, is_integer_G K C v0, ⟨fun _ _ _ _ _ _ h => h, trivial⟩, ⟨fun _ _ _ _ _ _ _ _ => trivial, trivial⟩, ?_⟩
  exact (.one (.ret (.and (.isinst (T := "int") (t := "int") (T' := "int") (r := true) ty_int (by decide +kernel) (by rfl) z_isinstance (by rfl) z_int (by decide +kernel) (.name (x := is_integer_value) (pv 0) rfl rfl)) (.one (.not (.isinst (T := "bool") (t := "bool") (T' := "int") (r := false) ty_int (by decide +kernel) (by rfl) z_isinstance (by rfl) z_bool (by decide +kernel) (.name (x := is_integer_value) (pv 0) rfl rfl))))) ⟨.inr rfl, trivial⟩))
/-! ### _law_mixed -/
abbrev l_mixed_N : List Str := ["cell", "number", "total", "k", "raised"]
abbrev l_mixed_ps : List Type := [Int]
abbrev l_mixed_ls : List Type := [Int, Int, Int, Int]
abbrev l_mixed_T : List Type := [Int, Int, Int, Int, Int]
abbrev l_mixed_cell : Var l_mixed_T Int := .vz
abbrev l_mixed_number : Var l_mixed_T Int := .vs .vz
abbrev l_mixed_total : Var l_mixed_T Int := .vs (.vs .vz)
abbrev l_mixed_k : Var l_mixed_T Int := .vs (.vs (.vs .vz))
abbrev l_mixed_raised : Var l_mixed_T Int := .vs (.vs (.vs (.vs .vz)))
abbrev l_mixed_G (K : Fr) (C : Nat → Addr) (v0 : V) : RTs K l_mixed_T := ((RT.dat K Int, ((RT.dat K Int, ((RT.dat K Int, ((RT.dat K Int, ((RT.dat K Int, ()) : RT K Int × RTs K [])) : RT K Int × RTs K [Int])) : RT K Int × RTs K [Int, Int])) : RT K Int × RTs K [Int, Int, Int])) : RT K Int × RTs K [Int, Int, Int, Int])
abbrev l_mixed_Gr (K : Fr) (C : Nat → Addr) (v0 : V) : RTs K l_mixed_T := ((RT.dead K Int, ((RT.dead K Int, ((RT.dead K Int, ((RT.dead K Int, ((RT.dead K Int, ()) : RT K Int × RTs K [])) : RT K Int × RTs K [Int])) : RT K Int × RTs K [Int, Int])) : RT K Int × RTs K [Int, Int, Int])) : RT K Int × RTs K [Int, Int, Int, Int])
abbrev l_mixed_R (K : Fr) (C : Nat → Addr) : RT K Int := RT.dat K Int
noncomputable def l_mixed_m : MS l_mixed_T Int := (sSeq (sAsg l_mixed_number (m2 iadd (m2 imod (m1 idt (mV l_mixed_cell)) (mC (2305843009213693907 : Int))) (mC (2 : Int))))
  (sSeq (sAsg l_mixed_total (mC (0 : Int)))
  (sSeq (sFor (m1 rng (mC (10 : Int))) (fun y s => l_mixed_k.set (some y) s) (sSeq (sAsg l_mixed_raised (m2 iadd (m2 imul (m2 imul (mV l_mixed_number) (mV l_mixed_number)) (mC (5 : Int))) (m2 imul (mV l_mixed_number) (mC (7907 : Int)))))
  (sSeq (sAsg l_mixed_number (m2 imod (m1 idt (m2 iadd (m2 iadd (mV l_mixed_raised) (m2 imul (mV l_mixed_k) (mC (1299709 : Int)))) (mC (17 : Int)))) (mC (2305843009213693951 : Int))))
  (sAsg l_mixed_total (m2 iadd (m2 imul (mV l_mixed_total) (mC (2305843009213693951 : Int))) (mV l_mixed_number))))))
  (sRet (mV l_mixed_total)))))
noncomputable abbrev l_mixed_fs (K : Fr) (C : Nat → Addr) : Fs K := { ps := l_mixed_ps, Γp := (((RT.dat K Int, ()) : RT K Int × RTs K []) : RTs K l_mixed_ps), Γo := (((RT.dead K Int, ()) : RT K Int × RTs K []) : RTs K l_mixed_ps), ρ := Int, R := l_mixed_R K C, f := (bodyF (ps := l_mixed_ps) (ls := l_mixed_ls) l_mixed_m) }
theorem l_mixed_sc : FnScope ["cell", "number", "total", "k", "raised"] ["cell"] (defScope (topS 20)) := ⟨rfl, rfl, rfl, by decide +kernel, rfl, by decide +kernel, by decide +kernel⟩
theorem l_mixed_ok {fa : Addr} {fd : FuncData} (F : Fun K "_law_mixed" "_law_mixed" (topS 20) fa fd) (TC0 : TC K (C 0)) (RU : RuA K mg (clsR C)) (z_range : mg "range" = none) (z_int : mg "int" = none) : FnOk Pr w K mg base CX0 1 fa fd ["cell"] (spF (l_mixed_fs K C)) := by
  refine fs_ok (k := 0) F l_mixed_sc (ps := l_mixed_ps) (ls := l_mixed_ls) (m := l_mixed_m) rfl rfl fun cdv A outer s H vs E hl hr => ?_
  obtain ⟨v0, rfl⟩ := len1 hl
  have hu : (A.deeper (PyProof.Rows.envOfC "_law_mixed" (defScope (topS 20)) s.heap.objs.size fa cdv)).units + 65 < cLine := by have := hr.un; omega
  refine ⟨l_mixed_G K C v0, l_mixed_Gr K C v0, l_mixed_G K C v0, ⟨fun _ _ _ _ _ _ h => h, trivial⟩, ⟨fun _ _ _ _ _ _ _ _ => trivial, trivial⟩, ?_⟩
  exact (.cons (Γ1 := l_mixed_G _ C v0)
    (.asg (x := l_mixed_number) (.add (.mod (.intOf (by rfl) z_int (.name (x := l_mixed_cell) (pv 0) rfl rfl)) .int) .int) l_mixed_sc.nd rfl (.inl rfl))
  (.cons (Γ1 := l_mixed_G _ C v0)
    (.asg (x := l_mixed_total) .int l_mixed_sc.nd rfl (.inl rfl))
  (.cons (Γ1 := l_mixed_G _ C v0)
    (.for_ PassesOwn.never rfl (.range1 (by rfl) z_range .int) ⟨.inl rfl, ⟨.inl rfl, ⟨.inl rfl, ⟨.inl rfl, ⟨.inl rfl, trivial⟩⟩⟩⟩⟩ (.name (x := l_mixed_k) rfl l_mixed_sc.nd rfl (.inl rfl)) (.cons (Γ1 := l_mixed_G _ C v0)
    (.asg (x := l_mixed_raised) (.add (.mul (.mul (.name (x := l_mixed_number) (pv 1) rfl rfl) (.name (x := l_mixed_number) (pv 1) rfl rfl)) .int) (.mul (.name (x := l_mixed_number) (pv 1) rfl rfl) .int)) l_mixed_sc.nd rfl (.inl rfl))
  (.cons (Γ1 := l_mixed_G _ C v0)
    (.asg (x := l_mixed_number) (.mod (.intOf (by rfl) z_int (.add (.add (.name (x := l_mixed_raised) (pv 4) rfl rfl) (.mul (.name (x := l_mixed_k) (pv 3) rfl rfl) .int)) .int)) .int) l_mixed_sc.nd rfl (.inl rfl))
  (.one (.asg (x := l_mixed_total) (.add (.mul (.name (x := l_mixed_total) (pv 2) rfl rfl) .int) (.name (x := l_mixed_number) (pv 1) rfl rfl)) l_mixed_sc.nd rfl (.inl rfl))))))
  (.one (.ret (.name (x := l_mixed_total) (pv 2) rfl rfl) ⟨.inr rfl, ⟨.inr rfl, ⟨.inr rfl, ⟨.inr rfl, ⟨.inr rfl, trivial⟩⟩⟩⟩⟩)))))
/-! ### _law_pick -/
abbrev l_pick_N : List Str := ["source", "size", "drawn"]
abbrev l_pick_ps : List Type := [List Int, Int]
abbrev l_pick_ls : List Type := [Int]
abbrev l_pick_T : List Type := [List Int, Int, Int]
abbrev l_pick_source : Var l_pick_T (List Int) := .vz
abbrev l_pick_size : Var l_pick_T Int := .vs .vz
abbrev l_pick_drawn : Var l_pick_T Int := .vs (.vs .vz)
abbrev l_pick_G (K : Fr) (C : Nat → Addr) (v0 v1 : V) : RTs K l_pick_T := ((RT.at v0 (RT.own K Int), ((RT.dat K Int, ((RT.dat K Int, ()) : RT K Int × RTs K [])) : RT K Int × RTs K [Int])) : RT K (List Int) × RTs K [Int, Int])
abbrev l_pick_Gr (K : Fr) (C : Nat → Addr) (v0 v1 : V) : RTs K l_pick_T := ((RT.at v0 (RT.own K Int), ((RT.dead K Int, ((RT.dead K Int, ()) : RT K Int × RTs K [])) : RT K Int × RTs K [Int])) : RT K (List Int) × RTs K [Int, Int])
abbrev l_pick_R (K : Fr) (C : Nat → Addr) : RT K Int := RT.dat K Int
noncomputable def l_pick_m : MS l_pick_T Int := (sSeq (sAsg l_pick_drawn (m2 imod (m1 idt (m2 idx (mV l_pick_source) (mC (0 : Int)))) (mV l_pick_size)))
  (sSeq (sSetI l_pick_source (mC (0 : Int)) (m2 idiv (m2 idx (mV l_pick_source) (mC (0 : Int))) (mV l_pick_size)))
  (sRet (mV l_pick_drawn))))
noncomputable abbrev l_pick_fs (K : Fr) (C : Nat → Addr) : Fs K := { ps := l_pick_ps, Γp := (((RT.own K Int, ((RT.dat K Int, ()) : RT K Int × RTs K [])) : RT K (List Int) × RTs K [Int]) : RTs K l_pick_ps), Γo := (((RT.own K Int, ((RT.dead K Int, ()) : RT K Int × RTs K [])) : RT K (List Int) × RTs K [Int]) : RTs K l_pick_ps), ρ := Int, R := l_pick_R K C, f := (bodyF (ps := l_pick_ps) (ls := l_pick_ls) l_pick_m) }
theorem l_pick_sc : FnScope ["source", "size", "drawn"] ["source", "size"] (defScope (topS 22)) := ⟨rfl, rfl, rfl, by decide +kernel, rfl, by decide +kernel, by decide +kernel⟩
theorem l_pick_ok {fa : Addr} {fd : FuncData} (F : Fun K "_law_pick" "_law_pick" (topS 22) fa fd) (TC0 : TC K (C 0)) (RU : RuA K mg (clsR C)) (z_int : mg "int" = none) : FnOk Pr w K mg base CX0 1 fa fd ["source", "size"] (spF (l_pick_fs K C)) := by
  refine fs_ok (k := 0) F l_pick_sc (ps := l_pick_ps) (ls := l_pick_ls) (m := l_pick_m) rfl rfl fun cdv A outer s H vs E hl hr => ?_
  obtain ⟨v0, v1, rfl⟩ := len2 hl
  have hu : (A.deeper (PyProof.Rows.envOfC "_law_pick" (defScope (topS 22)) s.heap.objs.size fa cdv)).units + 65 < cLine := by have := hr.un; omega
  refine ⟨l_pick_G K C v0 v1, l_pick_Gr K C v0 v1, l_pick_G K C v0 v1, ⟨fun v G H x A e h => ⟨(Option.some.inj e).symm, h⟩, fun _ _ _ _ _ _ h => h, trivial⟩, ⟨fun v u G H x A e h => by cases (Option.some.inj e); cases h.1; exact h.2, fun _ _ _ _ _ _ _ _ => trivial, trivial⟩, ?_⟩
  exact (.cons (Γ1 := l_pick_G _ C v0 v1)
    (.asg (x := l_pick_drawn) (.borrow l_pick_source (.mod (.intOf (by rfl) z_int (.idx (.var (x := l_pick_source) (pv 0) rfl rfl (fun _ _ _ h => h.2)) .int)) (.name (x := l_pick_size) (pv 1) rfl rfl)) (lin_dat)) l_pick_sc.nd rfl (.inl rfl))
  (.cons (Γ1 := l_pick_G _ C v0 v1)
    (.setI (x := l_pick_source) (pv 0) .at (.borrow l_pick_source (.fdiv (.idx (.var (x := l_pick_source) (pv 0) rfl rfl (fun _ _ _ h => h.2)) .int) (.name (x := l_pick_size) (pv 1) rfl rfl)) (lin_dat)) .int)
  (.one (.ret (.name (x := l_pick_drawn) (pv 2) rfl rfl) ⟨.inl rfl, ⟨.inr rfl, ⟨.inr rfl, trivial⟩⟩⟩))))
/-! ### _law_is_integer -/
abbrev l_is_integer_N : List Str := ["actual"]
abbrev l_is_integer_ps : List Type := [Int]
abbrev l_is_integer_ls : List Type := []
abbrev l_is_integer_T : List Type := [Int]
abbrev l_is_integer_actual : Var l_is_integer_T Int := .vz
abbrev l_is_integer_G (K : Fr) (C : Nat → Addr) (v0 : V) : RTs K l_is_integer_T := ((RT.dat K Int, ()) : RT K Int × RTs K [])
abbrev l_is_integer_Gr (K : Fr) (C : Nat → Addr) (v0 : V) : RTs K l_is_integer_T := ((RT.dead K Int, ()) : RT K Int × RTs K [])
abbrev l_is_integer_R (K : Fr) (C : Nat → Addr) : RT K Bool := RT.dat K Bool
noncomputable def l_is_integer_m : MS l_is_integer_T Bool := (sRet (mAnd (m1 (isT true) (mV l_is_integer_actual)) (m1 bnot (m1 (isT false) (mV l_is_integer_actual)))))
noncomputable abbrev l_is_integer_fs (K : Fr) (C : Nat → Addr) : Fs K := { ps := l_is_integer_ps, Γp := (((RT.dat K Int, ()) : RT K Int × RTs K []) : RTs K l_is_integer_ps), Γo := (((RT.dead K Int, ()) : RT K Int × RTs K []) : RTs K l_is_integer_ps), ρ := Bool, R := l_is_integer_R K C, f := (bodyF (ps := l_is_integer_ps) (ls := l_is_integer_ls) l_is_integer_m) }
theorem l_is_integer_sc : FnScope ["actual"] ["actual"] (defScope (topS 23)) := ⟨rfl, rfl, rfl, by decide +kernel, rfl, by decide +kernel, by decide +kernel⟩
theorem l_is_integer_ok {fa : Addr} {fd : FuncData} (F : Fun K "_law_is_integer" "_law_is_integer" (topS 23) fa fd) (TC0 : TC K (C 0)) (RU : RuA K mg (clsR C)) (z_isinstance : mg "isinstance" = none) (z_int : mg "int" = none) (z_bool : mg "bool" = none) : FnOk Pr w K mg base CX0 1 fa fd ["actual"] (spF (l_is_integer_fs K C)) := by
  refine fs_ok (k := 0) F l_is_integer_sc (ps := l_is_integer_ps) (ls := l_is_integer_ls) (m := l_is_integer_m) rfl rfl fun cdv A outer s H vs E hl hr => ?_
  obtain ⟨v0, rfl⟩ := len1 hl
  have hu : (A.deeper (PyProof.Rows.envOfC "_law_is_integer" (defScope (topS 23)) s.heap.objs.size fa cdv)).units + 65 < cLine := by have := hr.un; omega
  refine ⟨l_is_integer_G K C v0, l_is_integer_Gr K C v0, l_is_integer_G K C v0, ⟨fun _ _ _ _ _ _ h => h, trivial⟩, ⟨fun _ _ _ _ _ _ _ _ => trivial, trivial⟩, ?_⟩
  exact (.one (.ret (.and (.isinst (T := "int") (t := "int") (T' := "int") (r := true) ty_int (by decide +kernel) (by rfl) z_isinstance (by rfl) z_int (by decide +kernel) (.name (x := l_is_integer_actual) (pv 0) rfl rfl)) (.one (.not (.isinst (T := "bool") (t := "bool") (T' := "int") (r := false) ty_int (by decide +kernel) (by rfl) z_isinstance (by rfl) z_bool (by decide +kernel) (.name (x := l_is_integer_actual) (pv 0) rfl rfl))))) ⟨.inr rfl, trivial⟩))
/-! ### _law_far -/
abbrev l_far_N : List Str := ["roads", "one", "other", "far", "k", "v", "up", "w", "high"]
abbrev l_far_ps : List Type := [List (Int × Int), (Int × Int), (Int × Int)]
abbrev l_far_ls : List Type := [Int, Int, Int, Int, Int, Int]
abbrev l_far_T : List Type := [List (Int × Int), (Int × Int), (Int × Int), Int, Int, Int, Int, Int, Int]
abbrev l_far_roads : Var l_far_T (List (Int × Int)) := .vz
abbrev l_far_one : Var l_far_T (Int × Int) := .vs .vz
abbrev l_far_other : Var l_far_T (Int × Int) := .vs (.vs .vz)
abbrev l_far_far : Var l_far_T Int := .vs (.vs (.vs .vz))
abbrev l_far_k : Var l_far_T Int := .vs (.vs (.vs (.vs .vz)))
abbrev l_far_v : Var l_far_T Int := .vs (.vs (.vs (.vs (.vs .vz))))
abbrev l_far_up : Var l_far_T Int := .vs (.vs (.vs (.vs (.vs (.vs .vz)))))
abbrev l_far_w : Var l_far_T Int := .vs (.vs (.vs (.vs (.vs (.vs (.vs .vz))))))
abbrev l_far_high : Var l_far_T Int := .vs (.vs (.vs (.vs (.vs (.vs (.vs (.vs .vz)))))))
abbrev l_far_G (K : Fr) (C : Nat → Addr) (v0 v1 v2 : V) : RTs K l_far_T := ((RT.dat K (List (Int × Int)), ((RT.dat K (Int × Int), ((RT.dat K (Int × Int), ((RT.dat K Int, ((RT.dat K Int, ((RT.dat K Int, ((RT.dat K Int, ((RT.dat K Int, ((RT.dat K Int, ()) : RT K Int × RTs K [])) : RT K Int × RTs K [Int])) : RT K Int × RTs K [Int, Int])) : RT K Int × RTs K [Int, Int, Int])) : RT K Int × RTs K [Int, Int, Int, Int])) : RT K Int × RTs K [Int, Int, Int, Int, Int])) : RT K (Int × Int) × RTs K [Int, Int, Int, Int, Int, Int])) : RT K (Int × Int) × RTs K [(Int × Int), Int, Int, Int, Int, Int, Int])) : RT K (List (Int × Int)) × RTs K [(Int × Int), (Int × Int), Int, Int, Int, Int, Int, Int])
abbrev l_far_Gr (K : Fr) (C : Nat → Addr) (v0 v1 v2 : V) : RTs K l_far_T := ((RT.dead K (List (Int × Int)), ((RT.dead K (Int × Int), ((RT.dead K (Int × Int), ((RT.dead K Int, ((RT.dead K Int, ((RT.dead K Int, ((RT.dead K Int, ((RT.dead K Int, ((RT.dead K Int, ()) : RT K Int × RTs K [])) : RT K Int × RTs K [Int])) : RT K Int × RTs K [Int, Int])) : RT K Int × RTs K [Int, Int, Int])) : RT K Int × RTs K [Int, Int, Int, Int])) : RT K Int × RTs K [Int, Int, Int, Int, Int])) : RT K (Int × Int) × RTs K [Int, Int, Int, Int, Int, Int])) : RT K (Int × Int) × RTs K [(Int × Int), Int, Int, Int, Int, Int, Int])) : RT K (List (Int × Int)) × RTs K [(Int × Int), (Int × Int), Int, Int, Int, Int, Int, Int])
abbrev l_far_R (K : Fr) (C : Nat → Addr) : RT K Int := RT.dat K Int
noncomputable def l_far_m : MS l_far_T Int := (sSeq (sAsg l_far_far (mC (0 : Int)))
  (sSeq (sAsgG (fun z s => l_far_up.set (some z.2) (l_far_v.set (some z.1) s)) (mV l_far_one))
  (sSeq (sAsgG (fun z s => l_far_high.set (some z.2) (l_far_w.set (some z.1) s)) (mV l_far_other))
  (sSeq (sFor (m1 rng (m2 iadd (m2 imul (mC (2 : Int)) (m1 ilen (mV l_far_roads))) (mC (2 : Int)))) (fun y s => l_far_k.set (some y) s) (sSeq (sIf (m2 ieq (mV l_far_v) (mV l_far_w)) (sRet (m2 iadd (mV l_far_far) (m1 iabs (m2 isub (mV l_far_up) (mV l_far_high))))) sSkip)
  (sIf (m2 igt (mV l_far_v) (mV l_far_w)) (sSeq (sAsg l_far_far (m2 isub (m2 iadd (mV l_far_far) (m1 snd' (m2 idx (mV l_far_roads) (m2 isub (mV l_far_v) (mC (1 : Int)))))) (mV l_far_up)))
  (sPar l_far_v l_far_up (m1 fst' (m2 idx (mV l_far_roads) (m2 isub (mV l_far_v) (mC (1 : Int))))) (mC (0 : Int)))) (sSeq (sAsg l_far_far (m2 isub (m2 iadd (mV l_far_far) (m1 snd' (m2 idx (mV l_far_roads) (m2 isub (mV l_far_w) (mC (1 : Int)))))) (mV l_far_high)))
  (sPar l_far_w l_far_high (m1 fst' (m2 idx (mV l_far_roads) (m2 isub (mV l_far_w) (mC (1 : Int))))) (mC (0 : Int)))))))
  (sRet (mV l_far_far))))))
noncomputable abbrev l_far_fs (K : Fr) (C : Nat → Addr) : Fs K := { ps := l_far_ps, Γp := (((RT.dat K (List (Int × Int)), ((RT.dat K (Int × Int), ((RT.dat K (Int × Int), ()) : RT K (Int × Int) × RTs K [])) : RT K (Int × Int) × RTs K [(Int × Int)])) : RT K (List (Int × Int)) × RTs K [(Int × Int), (Int × Int)]) : RTs K l_far_ps), Γo := (((RT.dead K (List (Int × Int)), ((RT.dead K (Int × Int), ((RT.dead K (Int × Int), ()) : RT K (Int × Int) × RTs K [])) : RT K (Int × Int) × RTs K [(Int × Int)])) : RT K (List (Int × Int)) × RTs K [(Int × Int), (Int × Int)]) : RTs K l_far_ps), ρ := Int, R := l_far_R K C, f := (bodyF (ps := l_far_ps) (ls := l_far_ls) l_far_m) }
theorem l_far_sc : FnScope ["roads", "one", "other", "far", "k", "v", "up", "w", "high"] ["roads", "one", "other"] (defScope (topS 28)) := ⟨rfl, rfl, rfl, by decide +kernel, rfl, by decide +kernel, by decide +kernel⟩
theorem l_far_ok {fa : Addr} {fd : FuncData} (F : Fun K "_law_far" "_law_far" (topS 28) fa fd) (TC0 : TC K (C 0)) (RU : RuA K mg (clsR C)) (z_range : mg "range" = none) (z_len : mg "len" = none) (z_abs : mg "abs" = none) : FnOk Pr w K mg base CX0 1 fa fd ["roads", "one", "other"] (spF (l_far_fs K C)) := by
  refine fs_ok (k := 0) F l_far_sc (ps := l_far_ps) (ls := l_far_ls) (m := l_far_m) rfl rfl fun cdv A outer s H vs E hl hr => ?_
  obtain ⟨v0, v1, v2, rfl⟩ := len3 hl
  have hu : (A.deeper (PyProof.Rows.envOfC "_law_far" (defScope (topS 28)) s.heap.objs.size fa cdv)).units + 65 < cLine := by have := hr.un; omega
  refine ⟨l_far_G K C v0 v1 v2, l_far_Gr K C v0 v1 v2, l_far_G K C v0 v1 v2, ⟨fun _ _ _ _ _ _ h => h, fun _ _ _ _ _ _ h => h, fun _ _ _ _ _ _ h => h, trivial⟩, ⟨fun _ _ _ _ _ _ _ _ => trivial, fun _ _ _ _ _ _ _ _ => trivial, fun _ _ _ _ _ _ _ _ => trivial, trivial⟩, ?_⟩
  exact (.cons (Γ1 := l_far_G _ C v0 v1 v2)
    (.asg (x := l_far_far) .int l_far_sc.nd rfl (.inl rfl))
  (.cons (Γ1 := l_far_G _ C v0 v1 v2)
    (.asgG rfl (.name (x := l_far_one) (pv 1) rfl rfl) (.pair (x := l_far_v) (y := l_far_up) rfl l_far_sc.nd rfl (.inl rfl) rfl (.inl rfl) (by decide)))
  (.cons (Γ1 := l_far_G _ C v0 v1 v2)
    (.asgG rfl (.name (x := l_far_other) (pv 2) rfl rfl) (.pair (x := l_far_w) (y := l_far_high) rfl l_far_sc.nd rfl (.inl rfl) rfl (.inl rfl) (by decide)))
  (.cons (Γ1 := l_far_G _ C v0 v1 v2)
    (.for_ PassesOwn.never rfl (.range1 (by rfl) z_range (.add (.mul .int (.len (by rfl) z_len (.name (x := l_far_roads) (pv 0) rfl rfl))) .int)) ⟨.inl rfl, ⟨.inl rfl, ⟨.inl rfl, ⟨.inl rfl, ⟨.inl rfl, ⟨.inl rfl, ⟨.inl rfl, ⟨.inl rfl, ⟨.inl rfl, trivial⟩⟩⟩⟩⟩⟩⟩⟩⟩ (.name (x := l_far_k) rfl l_far_sc.nd rfl (.inl rfl)) (.cons (Γ1 := l_far_G _ C v0 v1 v2)
    (.ite (.ofC (.eq (.name (x := l_far_v) (pv 5) rfl rfl) (.name (x := l_far_w) (pv 7) rfl rfl) hu)) (.one (.ret (.add (.name (x := l_far_far) (pv 3) rfl rfl) (.abs (by rfl) z_abs (.sub (.name (x := l_far_up) (pv 6) rfl rfl) (.name (x := l_far_high) (pv 8) rfl rfl)))) ⟨.inr rfl, ⟨.inr rfl, ⟨.inr rfl, ⟨.inr rfl, ⟨.inr rfl, ⟨.inr rfl, ⟨.inr rfl, ⟨.inr rfl, ⟨.inr rfl, trivial⟩⟩⟩⟩⟩⟩⟩⟩⟩)) XSs.nil)
  (.one (.ite (.ofC (.gt (.name (x := l_far_v) (pv 5) rfl rfl) (.name (x := l_far_w) (pv 7) rfl rfl))) (.cons (Γ1 := l_far_G _ C v0 v1 v2)
    (.asg (x := l_far_far) (.sub (.add (.name (x := l_far_far) (pv 3) rfl rfl) (.snd (.idx (.name (x := l_far_roads) (pv 0) rfl rfl) (.sub (.name (x := l_far_v) (pv 5) rfl rfl) .int)))) (.name (x := l_far_up) (pv 6) rfl rfl)) l_far_sc.nd rfl (.inl rfl))
  (.one (.par (x := l_far_v) (y := l_far_up) rfl l_far_sc.nd rfl rfl (by decide) rfl rfl (.fst (.idx (.name (x := l_far_roads) (pv 0) rfl rfl) (.sub (.name (x := l_far_v) (pv 5) rfl rfl) .int))) .int rfl))) (.cons (Γ1 := l_far_G _ C v0 v1 v2)
    (.asg (x := l_far_far) (.sub (.add (.name (x := l_far_far) (pv 3) rfl rfl) (.snd (.idx (.name (x := l_far_roads) (pv 0) rfl rfl) (.sub (.name (x := l_far_w) (pv 7) rfl rfl) .int)))) (.name (x := l_far_high) (pv 8) rfl rfl)) l_far_sc.nd rfl (.inl rfl))
  (.one (.par (x := l_far_w) (y := l_far_high) rfl l_far_sc.nd rfl rfl (by decide) rfl rfl (.fst (.idx (.name (x := l_far_roads) (pv 0) rfl rfl) (.sub (.name (x := l_far_w) (pv 7) rfl rfl) .int))) .int rfl)))))))
  (.one (.ret (.name (x := l_far_far) (pv 3) rfl rfl) ⟨.inr rfl, ⟨.inr rfl, ⟨.inr rfl, ⟨.inr rfl, ⟨.inr rfl, ⟨.inr rfl, ⟨.inr rfl, ⟨.inr rfl, ⟨.inr rfl, trivial⟩⟩⟩⟩⟩⟩⟩⟩⟩))))))
/-! ### Tree.raised -/
abbrev T_raised_N : List Str := ["self", "point", "far", "node", "up"]
abbrev T_raised_ps : List Type := [TreeD, (Int × Int), Int]
abbrev T_raised_ls : List Type := [Int, Int]
abbrev T_raised_T : List Type := [TreeD, (Int × Int), Int, Int, Int]
abbrev T_raised_self : Var T_raised_T TreeD := .vz
abbrev T_raised_point : Var T_raised_T (Int × Int) := .vs .vz
abbrev T_raised_far : Var T_raised_T Int := .vs (.vs .vz)
abbrev T_raised_node : Var T_raised_T Int := .vs (.vs (.vs .vz))
abbrev T_raised_up : Var T_raised_T Int := .vs (.vs (.vs (.vs .vz)))
abbrev T_raised_G (K : Fr) (C : Nat → Addr) (v0 v1 v2 : V) : RTs K T_raised_T := ((RT.tree K (C 0), ((RT.dat K (Int × Int), ((RT.dat K Int, ((RT.dat K Int, ((RT.dat K Int, ()) : RT K Int × RTs K [])) : RT K Int × RTs K [Int])) : RT K Int × RTs K [Int, Int])) : RT K (Int × Int) × RTs K [Int, Int, Int])) : RT K TreeD × RTs K [(Int × Int), Int, Int, Int])
abbrev T_raised_Gr (K : Fr) (C : Nat → Addr) (v0 v1 v2 : V) : RTs K T_raised_T := ((RT.dead K TreeD, ((RT.dead K (Int × Int), ((RT.dead K Int, ((RT.dead K Int, ((RT.dead K Int, ()) : RT K Int × RTs K [])) : RT K Int × RTs K [Int])) : RT K Int × RTs K [Int, Int])) : RT K (Int × Int) × RTs K [Int, Int, Int])) : RT K TreeD × RTs K [(Int × Int), Int, Int, Int])
abbrev T_raised_R (K : Fr) (C : Nat → Addr) : RT K (Int × Int) := RT.dat K (Int × Int)
noncomputable def T_raised_m : MS T_raised_T (Int × Int) := (sSeq (sAsgG (fun z s => T_raised_up.set (some z.2) (T_raised_node.set (some z.1) s)) (mV T_raised_point))
  (sSeq (sWhile (mAnd (m2 igt (mV T_raised_node) (mC (0 : Int))) (m2 ige (m2 iadd (mV T_raised_up) (mV T_raised_far)) (m2 idx (m1 fLs (mV T_raised_self)) (mV T_raised_node)))) (sSeq (sAsg T_raised_far (m2 isub (mV T_raised_far) (m2 isub (m2 idx (m1 fLs (mV T_raised_self)) (mV T_raised_node)) (mV T_raised_up))))
  (sPar T_raised_node T_raised_up (m2 idx (m1 fPs (mV T_raised_self)) (mV T_raised_node)) (mC (0 : Int)))))
  (sRet (m2 pair (mV T_raised_node) (m2 iadd (mV T_raised_up) (mV T_raised_far))))))
noncomputable abbrev T_raised_fs (K : Fr) (C : Nat → Addr) : Fs K := { ps := T_raised_ps, Γp := (((RT.tree K (C 0), ((RT.dat K (Int × Int), ((RT.dat K Int, ()) : RT K Int × RTs K [])) : RT K (Int × Int) × RTs K [Int])) : RT K TreeD × RTs K [(Int × Int), Int]) : RTs K T_raised_ps), Γo := (((RT.dead K TreeD, ((RT.dead K (Int × Int), ((RT.dead K Int, ()) : RT K Int × RTs K [])) : RT K (Int × Int) × RTs K [Int])) : RT K TreeD × RTs K [(Int × Int), Int]) : RTs K T_raised_ps), ρ := (Int × Int), R := T_raised_R K C, f := (bodyF (ps := T_raised_ps) (ls := T_raised_ls) T_raised_m) }
theorem T_raised_sc : FnScope ["self", "point", "far", "node", "up"] ["self", "point", "far"] (defScope (inClass (topS 18) 9)) := ⟨rfl, rfl, rfl, by decide +kernel, rfl, by decide +kernel, by decide +kernel⟩
theorem T_raised_ok {fa : Addr} {fd : FuncData} (F : Fun K "raised" "Tree.raised" (inClass (topS 18) 9) fa fd) (TC0 : TC K (C 0)) (RU : RuA K mg (clsR C)) : FnOk Pr w K mg base CX0 1 fa fd ["self", "point", "far"] (spF (T_raised_fs K C)) := by
  refine fs_ok (k := 0) F T_raised_sc (ps := T_raised_ps) (ls := T_raised_ls) (m := T_raised_m) rfl rfl fun cdv A outer s H vs E hl hr => ?_
  obtain ⟨v0, v1, v2, rfl⟩ := len3 hl
  have hu : (A.deeper (PyProof.Rows.envOfC "Tree.raised" (defScope (inClass (topS 18) 9)) s.heap.objs.size fa cdv)).units + 65 < cLine := by have := hr.un; omega
  refine ⟨T_raised_G K C v0 v1 v2, T_raised_Gr K C v0 v1 v2, T_raised_G K C v0 v1 v2, ⟨fun _ _ _ _ _ _ h => h, fun _ _ _ _ _ _ h => h, fun _ _ _ _ _ _ h => h, trivial⟩, ⟨fun _ _ _ _ _ _ _ _ => trivial, fun _ _ _ _ _ _ _ _ => trivial, fun _ _ _ _ _ _ _ _ => trivial, trivial⟩, ?_⟩
  exact (.cons (Γ1 := T_raised_G _ C v0 v1 v2)
    (.asgG rfl (.name (x := T_raised_point) (pv 1) rfl rfl) (.pair (x := T_raised_node) (y := T_raised_up) rfl T_raised_sc.nd rfl (.inl rfl) rfl (.inl rfl) (by decide)))
  (.cons (Γ1 := T_raised_G _ C v0 v1 v2)
    (.while_ PassesOwn.never (.ofW (.and (.ofC (.gt (.name (x := T_raised_node) (pv 3) rfl rfl) .int)) (.and1 (.ofC (.ge (.add (.name (x := T_raised_up) (pv 4) rfl rfl) (.name (x := T_raised_far) (pv 2) rfl rfl)) (.idx (.fLs TC0 (.name (x := T_raised_self) (pv 0) rfl rfl)) (.name (x := T_raised_node) (pv 3) rfl rfl))))))) (.cons (Γ1 := T_raised_G _ C v0 v1 v2)
    (.asg (x := T_raised_far) (.sub (.name (x := T_raised_far) (pv 2) rfl rfl) (.sub (.idx (.fLs TC0 (.name (x := T_raised_self) (pv 0) rfl rfl)) (.name (x := T_raised_node) (pv 3) rfl rfl)) (.name (x := T_raised_up) (pv 4) rfl rfl))) T_raised_sc.nd rfl (.inl rfl))
  (.one (.par (x := T_raised_node) (y := T_raised_up) rfl T_raised_sc.nd rfl rfl (by decide) rfl rfl (.idx (.fPs TC0 (.name (x := T_raised_self) (pv 0) rfl rfl)) (.name (x := T_raised_node) (pv 3) rfl rfl)) .int rfl))) ⟨.inl rfl, ⟨.inl rfl, ⟨.inl rfl, ⟨.inl rfl, ⟨.inl rfl, trivial⟩⟩⟩⟩⟩)
  (.one (.ret (.pair (.name (x := T_raised_node) (pv 3) rfl rfl) (.add (.name (x := T_raised_up) (pv 4) rfl rfl) (.name (x := T_raised_far) (pv 2) rfl rfl))) ⟨.inr rfl, ⟨.inr rfl, ⟨.inr rfl, ⟨.inr rfl, ⟨.inr rfl, trivial⟩⟩⟩⟩⟩))))
/-! ### is_pair -/
abbrev is_pair_N : List Str := ["value"]
abbrev is_pair_ps : List Type := [(Int × Int)]
abbrev is_pair_ls : List Type := []
abbrev is_pair_T : List Type := [(Int × Int)]
abbrev is_pair_value : Var is_pair_T (Int × Int) := .vz
abbrev is_pair_G (K : Fr) (C : Nat → Addr) (v0 : V) : RTs K is_pair_T := ((RT.dat K (Int × Int), ()) : RT K (Int × Int) × RTs K [])
abbrev is_pair_Gr (K : Fr) (C : Nat → Addr) (v0 : V) : RTs K is_pair_T := ((RT.dead K (Int × Int), ()) : RT K (Int × Int) × RTs K [])
abbrev is_pair_R (K : Fr) (C : Nat → Addr) : RT K Bool := RT.dat K Bool
noncomputable def is_pair_m : MS is_pair_T Bool := (sRet (mAnd (m1 (isT true) (mV is_pair_value)) (mAnd (m2 ieq (m1 lenP (mV is_pair_value)) (mC (2 : Int))) (mAnd (mCall (.v .nil) (bodyF (ps := is_integer_ps) (ls := is_integer_ls) is_integer_m) (aV (m1 fst' (mV is_pair_value)) aNil)) (mCall (.v .nil) (bodyF (ps := is_integer_ps) (ls := is_integer_ls) is_integer_m) (aV (m1 snd' (mV is_pair_value)) aNil))))))
noncomputable abbrev is_pair_fs (K : Fr) (C : Nat → Addr) : Fs K := { ps := is_pair_ps, Γp := (((RT.dat K (Int × Int), ()) : RT K (Int × Int) × RTs K []) : RTs K is_pair_ps), Γo := (((RT.dead K (Int × Int), ()) : RT K (Int × Int) × RTs K []) : RTs K is_pair_ps), ρ := Bool, R := is_pair_R K C, f := (bodyF (ps := is_pair_ps) (ls := is_pair_ls) is_pair_m) }
theorem is_pair_sc : FnScope ["value"] ["value"] (defScope (topS 17)) := ⟨rfl, rfl, rfl, by decide +kernel, rfl, by decide +kernel, by decide +kernel⟩
theorem is_pair_ok {fa : Addr} {fd : FuncData} (F : Fun K "is_pair" "is_pair" (topS 17) fa fd) (TC0 : TC K (C 0)) (RU : RuA K mg (clsR C)) {a_is_integer : Addr} {d_is_integer : FuncData} (G_is_integer : FnOk Pr w K mg base CX0 1 a_is_integer d_is_integer ["value"] (spF (is_integer_fs K C))) (b_is_integer : Binds K d_is_integer ["value"] []) (g_is_integer : mg "is_integer" = some (.ref a_is_integer)) (k_is_integer : PySem.W.keepIn K (.ref a_is_integer) = true) (z_isinstance : mg "isinstance" = none) (z_tuple : mg "tuple" = none) (z_len : mg "len" = none) : FnOk Pr w K mg base CX0 2 fa fd ["value"] (spF (is_pair_fs K C)) := by
  refine fs_ok (k := 1) F is_pair_sc (ps := is_pair_ps) (ls := is_pair_ls) (m := is_pair_m) rfl rfl fun cdv A outer s H vs E hl hr => ?_
  obtain ⟨v0, rfl⟩ := len1 hl
  have hu : (A.deeper (PyProof.Rows.envOfC "is_pair" (defScope (topS 17)) s.heap.objs.size fa cdv)).units + 65 < cLine := by have := hr.un; omega
  refine ⟨is_pair_G K C v0, is_pair_Gr K C v0, is_pair_G K C v0, ⟨fun _ _ _ _ _ _ h => h, trivial⟩, ⟨fun _ _ _ _ _ _ _ _ => trivial, trivial⟩, ?_⟩
  exact (.one (.ret (.and (.isinst (T := "tuple") (t := "tuple") (T' := "tuple") (r := true) ty_tup2 (by decide +kernel) (by rfl) z_isinstance (by rfl) z_tuple (by decide +kernel) (.name (x := is_pair_value) (pv 0) rfl rfl)) (.and (.ofC (.eq (.len2 (by rfl) z_len (.name (x := is_pair_value) (pv 0) rfl rfl)) .int hu)) (.and (.call (.v .nil) G_is_integer (hr.mono (by decide)) (by rfl) g_is_integer k_is_integer b_is_integer (.v rfl (.fst (.name (x := is_pair_value) (pv 0) rfl rfl)) XA.nil) (om := trivial)) (.one (.call (.v .nil) G_is_integer (hr.mono (by decide)) (by rfl) g_is_integer k_is_integer b_is_integer (.v rfl (.snd (.name (x := is_pair_value) (pv 0) rfl rfl)) XA.nil) (om := trivial)))))) ⟨.inr rfl, trivial⟩))
/-! ### _law_source -/
abbrev l_source_N : List Str := ["script", "total", "cell"]
abbrev l_source_ps : List Type := [List Int]
abbrev l_source_ls : List Type := [Int, Int]
abbrev l_source_T : List Type := [List Int, Int, Int]
abbrev l_source_script : Var l_source_T (List Int) := .vz
abbrev l_source_total : Var l_source_T Int := .vs .vz
abbrev l_source_cell : Var l_source_T Int := .vs (.vs .vz)
abbrev l_source_G (K : Fr) (C : Nat → Addr) (v0 : V) : RTs K l_source_T := ((RT.scr K, ((RT.dat K Int, ((RT.dat K Int, ()) : RT K Int × RTs K [])) : RT K Int × RTs K [Int])) : RT K (List Int) × RTs K [Int, Int])
abbrev l_source_Gr (K : Fr) (C : Nat → Addr) (v0 : V) : RTs K l_source_T := ((RT.dead K (List Int), ((RT.dead K Int, ((RT.dead K Int, ()) : RT K Int × RTs K [])) : RT K Int × RTs K [Int])) : RT K (List Int) × RTs K [Int, Int])
abbrev l_source_R (K : Fr) (C : Nat → Addr) : RT K (List Int) := RT.own K Int
noncomputable def l_source_m : MS l_source_T (List Int) := (sSeq (sAsg l_source_total (mC (0 : Int)))
  (sSeq (sFor (mV l_source_script) (fun y s => l_source_cell.set (some y) s) (sIf (m2 ige (mV l_source_cell) (m2 ipow (mC (10 : Int)) (mC (18 : Int)))) (sAsg l_source_total (m2 iadd (m2 imul (mV l_source_total) (mC (1000003 : Int))) (m2 isub (mV l_source_cell) (m2 ipow (mC (10 : Int)) (mC (18 : Int)))))) (sAsg l_source_total (m2 iadd (m2 imul (mV l_source_total) (mC (1000003 : Int))) (mCall (.v .nil) (bodyF (ps := l_mixed_ps) (ls := l_mixed_ls) l_mixed_m) (aV (mV l_source_cell) aNil))))))
  (sRet (m1 lstO (m2 consO (mV l_source_total) (mC ([] : List Int)))))))
noncomputable abbrev l_source_fs (K : Fr) (C : Nat → Addr) : Fs K := { ps := l_source_ps, Γp := (((RT.scr K, ()) : RT K (List Int) × RTs K []) : RTs K l_source_ps), Γo := (((RT.dead K (List Int), ()) : RT K (List Int) × RTs K []) : RTs K l_source_ps), ρ := List Int, R := l_source_R K C, f := (bodyF (ps := l_source_ps) (ls := l_source_ls) l_source_m) }
theorem l_source_sc : FnScope ["script", "total", "cell"] ["script"] (defScope (topS 21)) := ⟨rfl, rfl, rfl, by decide +kernel, rfl, by decide +kernel, by decide +kernel⟩
theorem l_source_ok {fa : Addr} {fd : FuncData} (F : Fun K "_law_source" "_law_source" (topS 21) fa fd) (TC0 : TC K (C 0)) (RU : RuA K mg (clsR C)) {a_l_mixed : Addr} {d_l_mixed : FuncData} (G_l_mixed : FnOk Pr w K mg base CX0 1 a_l_mixed d_l_mixed ["cell"] (spF (l_mixed_fs K C))) (b_l_mixed : Binds K d_l_mixed ["cell"] []) (g_l_mixed : mg "_law_mixed" = some (.ref a_l_mixed)) (k_l_mixed : PySem.W.keepIn K (.ref a_l_mixed) = true) : FnOk Pr w K mg base CX0 2 fa fd ["script"] (spF (l_source_fs K C)) := by
  refine fs_ok (k := 1) F l_source_sc (ps := l_source_ps) (ls := l_source_ls) (m := l_source_m) rfl rfl fun cdv A outer s H vs E hl hr => ?_
  obtain ⟨v0, rfl⟩ := len1 hl
  have hu : (A.deeper (PyProof.Rows.envOfC "_law_source" (defScope (topS 21)) s.heap.objs.size fa cdv)).units + 65 < cLine := by have := hr.un; omega
  refine ⟨l_source_G K C v0, l_source_Gr K C v0, l_source_G K C v0, ⟨fun _ _ _ _ _ _ h => h, trivial⟩, ⟨fun _ _ _ _ _ _ _ _ => trivial, trivial⟩, ?_⟩
  exact (.cons (Γ1 := l_source_G _ C v0)
    (.asg (x := l_source_total) .int l_source_sc.nd rfl (.inl rfl))
  (.cons (Γ1 := l_source_G _ C v0)
    (.for_ PassesOwn.never rfl (.scr (.name (x := l_source_script) (pv 0) rfl rfl)) ⟨.inl rfl, ⟨.inl rfl, ⟨.inl rfl, trivial⟩⟩⟩ (.name (x := l_source_cell) rfl l_source_sc.nd rfl (.inl rfl)) (.one (.ite (.ofC (.ge (.name (x := l_source_cell) (pv 2) rfl rfl) (.pow .int .int))) (.one (.asg (x := l_source_total) (.add (.mul (.name (x := l_source_total) (pv 1) rfl rfl) .int) (.sub (.name (x := l_source_cell) (pv 2) rfl rfl) (.pow .int .int))) l_source_sc.nd rfl (.inl rfl))) (.one (.asg (x := l_source_total) (.add (.mul (.name (x := l_source_total) (pv 1) rfl rfl) .int) (.call (.v .nil) G_l_mixed (hr.mono (by decide)) (by rfl) g_l_mixed k_l_mixed b_l_mixed (.v rfl (.name (x := l_source_cell) (pv 2) rfl rfl) XA.nil) (om := trivial))) l_source_sc.nd rfl (.inl rfl))))))
  (.one (.ret (.lst (.cons (.name (x := l_source_total) (pv 1) rfl rfl) .nil)) ⟨.inr rfl, ⟨.inr rfl, ⟨.inr rfl, trivial⟩⟩⟩))))
/-! ### _law_roads -/
abbrev l_roads_N : List Str := ["source", "least", "longest", "shape", "even", "first", "roads", "v", "length", "parent"]
abbrev l_roads_ps : List Type := [List Int, Int]
abbrev l_roads_ls : List Type := [Int, Int, Int, Int, List (Int × Int), Int, Int, Int]
abbrev l_roads_T : List Type := [List Int, Int, Int, Int, Int, Int, List (Int × Int), Int, Int, Int]
abbrev l_roads_source : Var l_roads_T (List Int) := .vz
abbrev l_roads_least : Var l_roads_T Int := .vs .vz
abbrev l_roads_longest : Var l_roads_T Int := .vs (.vs .vz)
abbrev l_roads_shape : Var l_roads_T Int := .vs (.vs (.vs .vz))
abbrev l_roads_even : Var l_roads_T Int := .vs (.vs (.vs (.vs .vz)))
abbrev l_roads_first : Var l_roads_T Int := .vs (.vs (.vs (.vs (.vs .vz))))
abbrev l_roads_roads : Var l_roads_T (List (Int × Int)) := .vs (.vs (.vs (.vs (.vs (.vs .vz)))))
abbrev l_roads_v : Var l_roads_T Int := .vs (.vs (.vs (.vs (.vs (.vs (.vs .vz))))))
abbrev l_roads_length : Var l_roads_T Int := .vs (.vs (.vs (.vs (.vs (.vs (.vs (.vs .vz)))))))
abbrev l_roads_parent : Var l_roads_T Int := .vs (.vs (.vs (.vs (.vs (.vs (.vs (.vs (.vs .vz))))))))
abbrev l_roads_G (K : Fr) (C : Nat → Addr) (v0 v1 : V) : RTs K l_roads_T := ((RT.at v0 (RT.own K Int), ((RT.dat K Int, ((RT.dat K Int, ((RT.dat K Int, ((RT.dat K Int, ((RT.dat K Int, ((RT.own K (Int × Int), ((RT.dat K Int, ((RT.dat K Int, ((RT.dat K Int, ()) : RT K Int × RTs K [])) : RT K Int × RTs K [Int])) : RT K Int × RTs K [Int, Int])) : RT K (List (Int × Int)) × RTs K [Int, Int, Int])) : RT K Int × RTs K [List (Int × Int), Int, Int, Int])) : RT K Int × RTs K [Int, List (Int × Int), Int, Int, Int])) : RT K Int × RTs K [Int, Int, List (Int × Int), Int, Int, Int])) : RT K Int × RTs K [Int, Int, Int, List (Int × Int), Int, Int, Int])) : RT K Int × RTs K [Int, Int, Int, Int, List (Int × Int), Int, Int, Int])) : RT K (List Int) × RTs K [Int, Int, Int, Int, Int, List (Int × Int), Int, Int, Int])
abbrev l_roads_Gr (K : Fr) (C : Nat → Addr) (v0 v1 : V) : RTs K l_roads_T := ((RT.at v0 (RT.own K Int), ((RT.dead K Int, ((RT.dead K Int, ((RT.dead K Int, ((RT.dead K Int, ((RT.dead K Int, ((RT.dead K (List (Int × Int)), ((RT.dead K Int, ((RT.dead K Int, ((RT.dead K Int, ()) : RT K Int × RTs K [])) : RT K Int × RTs K [Int])) : RT K Int × RTs K [Int, Int])) : RT K (List (Int × Int)) × RTs K [Int, Int, Int])) : RT K Int × RTs K [List (Int × Int), Int, Int, Int])) : RT K Int × RTs K [Int, List (Int × Int), Int, Int, Int])) : RT K Int × RTs K [Int, Int, List (Int × Int), Int, Int, Int])) : RT K Int × RTs K [Int, Int, Int, List (Int × Int), Int, Int, Int])) : RT K Int × RTs K [Int, Int, Int, Int, List (Int × Int), Int, Int, Int])) : RT K (List Int) × RTs K [Int, Int, Int, Int, Int, List (Int × Int), Int, Int, Int])
abbrev l_roads_R (K : Fr) (C : Nat → Addr) : RT K (List (Int × Int)) := RT.own K (Int × Int)
noncomputable def l_roads_m : MS l_roads_T (List (Int × Int)) := (sSeq (sAsg l_roads_longest (m2 idx (m1 lstO (m2 consO (mC (6 : Int)) (m2 consO (mC (2 : Int)) (m2 consO (mC (40 : Int)) (m2 consO (mC (1 : Int)) (mC ([] : List Int))))))) (mCall (.m l_roads_source (.v .nil)) (bodyF (ps := l_pick_ps) (ls := l_pick_ls) l_pick_m) (aM l_roads_source (aV (mC (4 : Int)) aNil)))))
  (sSeq (sAsg l_roads_shape (mCall (.m l_roads_source (.v .nil)) (bodyF (ps := l_pick_ps) (ls := l_pick_ls) l_pick_m) (aM l_roads_source (aV (mC (4 : Int)) aNil))))
  (sSeq (sAsg l_roads_even (mCall (.m l_roads_source (.v .nil)) (bodyF (ps := l_pick_ps) (ls := l_pick_ls) l_pick_m) (aM l_roads_source (aV (mC (3 : Int)) aNil))))
  (sSeq (sAsg l_roads_first (m2 iadd (mC (1 : Int)) (mCall (.m l_roads_source (.v .nil)) (bodyF (ps := l_pick_ps) (ls := l_pick_ls) l_pick_m) (aM l_roads_source (aV (mV l_roads_longest) aNil)))))
  (sSeq (sAsg l_roads_roads (m1 lstO (mC ([] : List (Int × Int)))))
  (sSeq (sFor (m2 rng2 (mC (1 : Int)) (m2 iadd (m2 iadd (mC (1 : Int)) (mV l_roads_least)) (mCall (.m l_roads_source (.v .nil)) (bodyF (ps := l_pick_ps) (ls := l_pick_ls) l_pick_m) (aM l_roads_source (aV (m2 isub (mC (10 : Int)) (mV l_roads_least)) aNil))))) (fun y s => l_roads_v.set (some y) s) (sSeq (sAsg l_roads_length (m2 iadd (mC (1 : Int)) (mCall (.m l_roads_source (.v .nil)) (bodyF (ps := l_pick_ps) (ls := l_pick_ls) l_pick_m) (aM l_roads_source (aV (mV l_roads_longest) aNil)))))
  (sSeq (sIf (m2 ieq (mV l_roads_even) (mC (2 : Int))) (sAsg l_roads_length (mV l_roads_first)) sSkip)
  (sSeq (sAsg l_roads_parent (mCall (.m l_roads_source (.v .nil)) (bodyF (ps := l_pick_ps) (ls := l_pick_ls) l_pick_m) (aM l_roads_source (aV (mV l_roads_v) aNil))))
  (sSeq (sIf (m2 ieq (mV l_roads_shape) (mC (1 : Int))) (sAsg l_roads_parent (mC (0 : Int))) sSkip)
  (sSeq (sIf (m2 ieq (mV l_roads_shape) (mC (2 : Int))) (sAsg l_roads_parent (m2 isub (mV l_roads_v) (mC (1 : Int)))) sSkip)
  (sApp l_roads_roads (m2 pair (mV l_roads_parent) (mV l_roads_length)))))))))
  (sRet (mV l_roads_roads))))))))
noncomputable abbrev l_roads_fs (K : Fr) (C : Nat → Addr) : Fs K := { ps := l_roads_ps, Γp := (((RT.own K Int, ((RT.dat K Int, ()) : RT K Int × RTs K [])) : RT K (List Int) × RTs K [Int]) : RTs K l_roads_ps), Γo := (((RT.own K Int, ((RT.dead K Int, ()) : RT K Int × RTs K [])) : RT K (List Int) × RTs K [Int]) : RTs K l_roads_ps), ρ := List (Int × Int), R := l_roads_R K C, f := (bodyF (ps := l_roads_ps) (ls := l_roads_ls) l_roads_m) }
theorem l_roads_sc : FnScope ["source", "least", "longest", "shape", "even", "first", "roads", "v", "length", "parent"] ["source", "least"] (defScope (topS 24)) := ⟨rfl, rfl, rfl, by decide +kernel, rfl, by decide +kernel, by decide +kernel⟩
theorem l_roads_ok {fa : Addr} {fd : FuncData} (F : Fun K "_law_roads" "_law_roads" (topS 24) fa fd) (TC0 : TC K (C 0)) (RU : RuA K mg (clsR C)) {a_l_pick : Addr} {d_l_pick : FuncData} (G_l_pick : FnOk Pr w K mg base CX0 1 a_l_pick d_l_pick ["source", "size"] (spF (l_pick_fs K C))) (b_l_pick : Binds K d_l_pick ["source", "size"] []) (g_l_pick : mg "_law_pick" = some (.ref a_l_pick)) (k_l_pick : PySem.W.keepIn K (.ref a_l_pick) = true) (z_range : mg "range" = none) : FnOk Pr w K mg base CX0 2 fa fd ["source", "least"] (spF (l_roads_fs K C)) := by
  refine fs_ok (k := 1) F l_roads_sc (ps := l_roads_ps) (ls := l_roads_ls) (m := l_roads_m) rfl rfl fun cdv A outer s H vs E hl hr => ?_
  obtain ⟨v0, v1, rfl⟩ := len2 hl
  have hu : (A.deeper (PyProof.Rows.envOfC "_law_roads" (defScope (topS 24)) s.heap.objs.size fa cdv)).units + 65 < cLine := by have := hr.un; omega
  refine ⟨l_roads_G K C v0 v1, l_roads_Gr K C v0 v1, l_roads_G K C v0 v1, ⟨fun v G H x A e h => ⟨(Option.some.inj e).symm, h⟩, fun _ _ _ _ _ _ h => h, trivial⟩, ⟨fun v u G H x A e h => by cases (Option.some.inj e); cases h.1; exact h.2, fun _ _ _ _ _ _ _ _ => trivial, trivial⟩, ?_⟩
  exact (.cons (Γ1 := l_roads_G _ C v0 v1)
    (.asg (x := l_roads_longest) (.idx (.dat (.lst (.cons .int (.cons .int (.cons .int (.cons .int .nil)))))) (.call (.m l_roads_source (.v .nil)) G_l_pick (hr.mono (by decide)) (by rfl) g_l_pick k_l_pick b_l_pick (.m (x := l_roads_source) (pv 0) .at rfl (.v rfl .int XA.nil)) (om := ⟨rfl, trivial⟩))) l_roads_sc.nd rfl (.inl rfl))
  (.cons (Γ1 := l_roads_G _ C v0 v1)
    (.asg (x := l_roads_shape) (.call (.m l_roads_source (.v .nil)) G_l_pick (hr.mono (by decide)) (by rfl) g_l_pick k_l_pick b_l_pick (.m (x := l_roads_source) (pv 0) .at rfl (.v rfl .int XA.nil)) (om := ⟨rfl, trivial⟩)) l_roads_sc.nd rfl (.inl rfl))
  (.cons (Γ1 := l_roads_G _ C v0 v1)
    (.asg (x := l_roads_even) (.call (.m l_roads_source (.v .nil)) G_l_pick (hr.mono (by decide)) (by rfl) g_l_pick k_l_pick b_l_pick (.m (x := l_roads_source) (pv 0) .at rfl (.v rfl .int XA.nil)) (om := ⟨rfl, trivial⟩)) l_roads_sc.nd rfl (.inl rfl))
  (.cons (Γ1 := l_roads_G _ C v0 v1)
    (.asg (x := l_roads_first) (.add .int (.call (.m l_roads_source (.v .nil)) G_l_pick (hr.mono (by decide)) (by rfl) g_l_pick k_l_pick b_l_pick (.m (x := l_roads_source) (pv 0) .at rfl (.v rfl (.name (x := l_roads_longest) (pv 2) rfl rfl) XA.nil)) (om := ⟨rfl, trivial⟩))) l_roads_sc.nd rfl (.inl rfl))
  (.cons (Γ1 := l_roads_G _ C v0 v1)
    (.asg (x := l_roads_roads) (.lst .nil) l_roads_sc.nd rfl (.inl rfl))
  (.cons (Γ1 := l_roads_G _ C v0 v1)
    (.for_ PassesOwn.never rfl (.range2 (by rfl) z_range .int (.add (.add .int (.name (x := l_roads_least) (pv 1) rfl rfl)) (.call (.m l_roads_source (.v .nil)) G_l_pick (hr.mono (by decide)) (by rfl) g_l_pick k_l_pick b_l_pick (.m (x := l_roads_source) (pv 0) .at rfl (.v rfl (.sub .int (.name (x := l_roads_least) (pv 1) rfl rfl)) XA.nil)) (om := ⟨rfl, trivial⟩)))) ⟨.inl rfl, ⟨.inl rfl, ⟨.inl rfl, ⟨.inl rfl, ⟨.inl rfl, ⟨.inl rfl, ⟨.inl rfl, ⟨.inl rfl, ⟨.inl rfl, ⟨.inl rfl, trivial⟩⟩⟩⟩⟩⟩⟩⟩⟩⟩ (.name (x := l_roads_v) rfl l_roads_sc.nd rfl (.inl rfl)) (.cons (Γ1 := l_roads_G _ C v0 v1)
    (.asg (x := l_roads_length) (.add .int (.call (.m l_roads_source (.v .nil)) G_l_pick (hr.mono (by decide)) (by rfl) g_l_pick k_l_pick b_l_pick (.m (x := l_roads_source) (pv 0) .at rfl (.v rfl (.name (x := l_roads_longest) (pv 2) rfl rfl) XA.nil)) (om := ⟨rfl, trivial⟩))) l_roads_sc.nd rfl (.inl rfl))
  (.cons (Γ1 := l_roads_G _ C v0 v1)
    (.ite (.ofC (.eq (.name (x := l_roads_even) (pv 4) rfl rfl) .int hu)) (.one (.asg (x := l_roads_length) (.name (x := l_roads_first) (pv 5) rfl rfl) l_roads_sc.nd rfl (.inl rfl))) XSs.nil)
  (.cons (Γ1 := l_roads_G _ C v0 v1)
    (.asg (x := l_roads_parent) (.call (.m l_roads_source (.v .nil)) G_l_pick (hr.mono (by decide)) (by rfl) g_l_pick k_l_pick b_l_pick (.m (x := l_roads_source) (pv 0) .at rfl (.v rfl (.name (x := l_roads_v) (pv 7) rfl rfl) XA.nil)) (om := ⟨rfl, trivial⟩)) l_roads_sc.nd rfl (.inl rfl))
  (.cons (Γ1 := l_roads_G _ C v0 v1)
    (.ite (.ofC (.eq (.name (x := l_roads_shape) (pv 3) rfl rfl) .int hu)) (.one (.asg (x := l_roads_parent) .int l_roads_sc.nd rfl (.inl rfl))) XSs.nil)
  (.cons (Γ1 := l_roads_G _ C v0 v1)
    (.ite (.ofC (.eq (.name (x := l_roads_shape) (pv 3) rfl rfl) .int hu)) (.one (.asg (x := l_roads_parent) (.sub (.name (x := l_roads_v) (pv 7) rfl rfl) .int) l_roads_sc.nd rfl (.inl rfl))) XSs.nil)
  (.one (.app (x := l_roads_roads) (pv 6) .refl (.pair (.name (x := l_roads_parent) (pv 9) rfl rfl) (.name (x := l_roads_length) (pv 8) rfl rfl))))))))))
  (.one (.retV (x := l_roads_roads) (pv 6) rfl ⟨.inl rfl, ⟨.inr rfl, ⟨.inr rfl, ⟨.inr rfl, ⟨.inr rfl, ⟨.inr rfl, ⟨.inr rfl, ⟨.inr rfl, ⟨.inr rfl, ⟨.inr rfl, trivial⟩⟩⟩⟩⟩⟩⟩⟩⟩⟩))))))))
/-! ### _law_point -/
abbrev l_point_N : List Str := ["source", "roads", "inner", "v"]
abbrev l_point_ps : List Type := [List Int, List (Int × Int)]
abbrev l_point_ls : List Type := [Int, Int]
abbrev l_point_T : List Type := [List Int, List (Int × Int), Int, Int]
abbrev l_point_source : Var l_point_T (List Int) := .vz
abbrev l_point_roads : Var l_point_T (List (Int × Int)) := .vs .vz
abbrev l_point_inner : Var l_point_T Int := .vs (.vs .vz)
abbrev l_point_v : Var l_point_T Int := .vs (.vs (.vs .vz))
abbrev l_point_G (K : Fr) (C : Nat → Addr) (v0 v1 : V) : RTs K l_point_T := ((RT.at v0 (RT.own K Int), ((RT.dat K (List (Int × Int)), ((RT.dat K Int, ((RT.dat K Int, ()) : RT K Int × RTs K [])) : RT K Int × RTs K [Int])) : RT K (List (Int × Int)) × RTs K [Int, Int])) : RT K (List Int) × RTs K [List (Int × Int), Int, Int])
abbrev l_point_Gr (K : Fr) (C : Nat → Addr) (v0 v1 : V) : RTs K l_point_T := ((RT.at v0 (RT.own K Int), ((RT.dead K (List (Int × Int)), ((RT.dead K Int, ((RT.dead K Int, ()) : RT K Int × RTs K [])) : RT K Int × RTs K [Int])) : RT K (List (Int × Int)) × RTs K [Int, Int])) : RT K (List Int) × RTs K [List (Int × Int), Int, Int])
abbrev l_point_R (K : Fr) (C : Nat → Addr) : RT K (Int × Int) := RT.dat K (Int × Int)
noncomputable def l_point_m : MS l_point_T (Int × Int) := (sSeq (sAsg l_point_inner (mCall (.m l_point_source (.v .nil)) (bodyF (ps := l_pick_ps) (ls := l_pick_ls) l_pick_m) (aM l_point_source (aV (mC (2 : Int)) aNil))))
  (sSeq (sAsg l_point_v (mCall (.m l_point_source (.v .nil)) (bodyF (ps := l_pick_ps) (ls := l_pick_ls) l_pick_m) (aM l_point_source (aV (m2 iadd (m1 ilen (mV l_point_roads)) (mC (1 : Int))) aNil))))
  (sSeq (sIf (mOr (m2 ieq (mV l_point_v) (mC (0 : Int))) (m2 ieq (mV l_point_inner) (mC (0 : Int)))) (sRet (m2 pair (mV l_point_v) (mC (0 : Int)))) sSkip)
  (sRet (m2 pair (mV l_point_v) (mCall (.m l_point_source (.v .nil)) (bodyF (ps := l_pick_ps) (ls := l_pick_ls) l_pick_m) (aM l_point_source (aV (m1 snd' (m2 idx (mV l_point_roads) (m2 isub (mV l_point_v) (mC (1 : Int))))) aNil))))))))
noncomputable abbrev l_point_fs (K : Fr) (C : Nat → Addr) : Fs K := { ps := l_point_ps, Γp := (((RT.own K Int, ((RT.dat K (List (Int × Int)), ()) : RT K (List (Int × Int)) × RTs K [])) : RT K (List Int) × RTs K [List (Int × Int)]) : RTs K l_point_ps), Γo := (((RT.own K Int, ((RT.dead K (List (Int × Int)), ()) : RT K (List (Int × Int)) × RTs K [])) : RT K (List Int) × RTs K [List (Int × Int)]) : RTs K l_point_ps), ρ := (Int × Int), R := l_point_R K C, f := (bodyF (ps := l_point_ps) (ls := l_point_ls) l_point_m) }
theorem l_point_sc : FnScope ["source", "roads", "inner", "v"] ["source", "roads"] (defScope (topS 25)) := ⟨rfl, rfl, rfl, by decide +kernel, rfl, by decide +kernel, by decide +kernel⟩
theorem l_point_ok {fa : Addr} {fd : FuncData} (F : Fun K "_law_point" "_law_point" (topS 25) fa fd) (TC0 : TC K (C 0)) (RU : RuA K mg (clsR C)) {a_l_pick : Addr} {d_l_pick : FuncData} (G_l_pick : FnOk Pr w K mg base CX0 1 a_l_pick d_l_pick ["source", "size"] (spF (l_pick_fs K C))) (b_l_pick : Binds K d_l_pick ["source", "size"] []) (g_l_pick : mg "_law_pick" = some (.ref a_l_pick)) (k_l_pick : PySem.W.keepIn K (.ref a_l_pick) = true) (z_len : mg "len" = none) : FnOk Pr w K mg base CX0 2 fa fd ["source", "roads"] (spF (l_point_fs K C)) := by
  refine fs_ok (k := 1) F l_point_sc (ps := l_point_ps) (ls := l_point_ls) (m := l_point_m) rfl rfl fun cdv A outer s H vs E hl hr => ?_
  obtain ⟨v0, v1, rfl⟩ := len2 hl
  have hu : (A.deeper (PyProof.Rows.envOfC "_law_point" (defScope (topS 25)) s.heap.objs.size fa cdv)).units + 65 < cLine := by have := hr.un; omega
  refine ⟨l_point_G K C v0 v1, l_point_Gr K C v0 v1, l_point_G K C v0 v1, ⟨fun v G H x A e h => ⟨(Option.some.inj e).symm, h⟩, fun _ _ _ _ _ _ h => h, trivial⟩, ⟨fun v u G H x A e h => by cases (Option.some.inj e); cases h.1; exact h.2, fun _ _ _ _ _ _ _ _ => trivial, trivial⟩, ?_⟩
  exact (.cons (Γ1 := l_point_G _ C v0 v1)
    (.asg (x := l_point_inner) (.call (.m l_point_source (.v .nil)) G_l_pick (hr.mono (by decide)) (by rfl) g_l_pick k_l_pick b_l_pick (.m (x := l_point_source) (pv 0) .at rfl (.v rfl .int XA.nil)) (om := ⟨rfl, trivial⟩)) l_point_sc.nd rfl (.inl rfl))
  (.cons (Γ1 := l_point_G _ C v0 v1)
    (.asg (x := l_point_v) (.call (.m l_point_source (.v .nil)) G_l_pick (hr.mono (by decide)) (by rfl) g_l_pick k_l_pick b_l_pick (.m (x := l_point_source) (pv 0) .at rfl (.v rfl (.add (.len (by rfl) z_len (.name (x := l_point_roads) (pv 1) rfl rfl)) .int) XA.nil)) (om := ⟨rfl, trivial⟩)) l_point_sc.nd rfl (.inl rfl))
  (.cons (Γ1 := l_point_G _ C v0 v1)
    (.ite (.ofW (.or (.ofC (.eq (.name (x := l_point_v) (pv 3) rfl rfl) .int hu)) (.or1 (.ofC (.eq (.name (x := l_point_inner) (pv 2) rfl rfl) .int hu))))) (.one (.ret (.pair (.name (x := l_point_v) (pv 3) rfl rfl) .int) ⟨.inl rfl, ⟨.inr rfl, ⟨.inr rfl, ⟨.inr rfl, trivial⟩⟩⟩⟩)) XSs.nil)
  (.one (.ret (.pair (.name (x := l_point_v) (pv 3) rfl rfl) (.call (.m l_point_source (.v .nil)) G_l_pick (hr.mono (by decide)) (by rfl) g_l_pick k_l_pick b_l_pick (.m (x := l_point_source) (pv 0) .at rfl (.v rfl (.snd (.idx (.name (x := l_point_roads) (pv 1) rfl rfl) (.sub (.name (x := l_point_v) (pv 3) rfl rfl) .int))) XA.nil)) (om := ⟨rfl, trivial⟩))) ⟨.inl rfl, ⟨.inr rfl, ⟨.inr rfl, ⟨.inr rfl, trivial⟩⟩⟩⟩)))))
/-! ### _law_is_point -/
abbrev l_is_point_N : List Str := ["roads", "actual"]
abbrev l_is_point_ps : List Type := [List (Int × Int), (Int × Int)]
abbrev l_is_point_ls : List Type := []
abbrev l_is_point_T : List Type := [List (Int × Int), (Int × Int)]
abbrev l_is_point_roads : Var l_is_point_T (List (Int × Int)) := .vz
abbrev l_is_point_actual : Var l_is_point_T (Int × Int) := .vs .vz
abbrev l_is_point_G (K : Fr) (C : Nat → Addr) (v0 v1 : V) : RTs K l_is_point_T := ((RT.dat K (List (Int × Int)), ((RT.dat K (Int × Int), ()) : RT K (Int × Int) × RTs K [])) : RT K (List (Int × Int)) × RTs K [(Int × Int)])
abbrev l_is_point_Gr (K : Fr) (C : Nat → Addr) (v0 v1 : V) : RTs K l_is_point_T := ((RT.dead K (List (Int × Int)), ((RT.dead K (Int × Int), ()) : RT K (Int × Int) × RTs K [])) : RT K (List (Int × Int)) × RTs K [(Int × Int)])
abbrev l_is_point_R (K : Fr) (C : Nat → Addr) : RT K Bool := RT.dat K Bool
noncomputable def l_is_point_m : MS l_is_point_T Bool := (sSeq (sIf (mOr (m1 bnot (m1 (isT true) (mV l_is_point_actual))) (m2 ine (m1 lenP (mV l_is_point_actual)) (mC (2 : Int)))) (sRet (mC false)) sSkip)
  (sSeq (sIf (mOr (m1 bnot (mCall (.v .nil) (bodyF (ps := l_is_integer_ps) (ls := l_is_integer_ls) l_is_integer_m) (aV (m1 fst' (mV l_is_point_actual)) aNil))) (m1 bnot (mCall (.v .nil) (bodyF (ps := l_is_integer_ps) (ls := l_is_integer_ls) l_is_integer_m) (aV (m1 snd' (mV l_is_point_actual)) aNil)))) (sRet (mC false)) sSkip)
  (sSeq (sIf (m2 ieq (m1 fst' (mV l_is_point_actual)) (mC (0 : Int))) (sRet (m2 ieq (m1 snd' (mV l_is_point_actual)) (mC (0 : Int)))) sSkip)
  (sRet (mAnd (chn ilt ile (mC (0 : Int)) (m1 fst' (mV l_is_point_actual)) (m1 ilen (mV l_is_point_roads))) (chn ile ilt (mC (0 : Int)) (m1 snd' (mV l_is_point_actual)) (m1 snd' (m2 idx (mV l_is_point_roads) (m2 isub (m1 fst' (mV l_is_point_actual)) (mC (1 : Int)))))))))))
noncomputable abbrev l_is_point_fs (K : Fr) (C : Nat → Addr) : Fs K := { ps := l_is_point_ps, Γp := (((RT.dat K (List (Int × Int)), ((RT.dat K (Int × Int), ()) : RT K (Int × Int) × RTs K [])) : RT K (List (Int × Int)) × RTs K [(Int × Int)]) : RTs K l_is_point_ps), Γo := (((RT.dead K (List (Int × Int)), ((RT.dead K (Int × Int), ()) : RT K (Int × Int) × RTs K [])) : RT K (List (Int × Int)) × RTs K [(Int × Int)]) : RTs K l_is_point_ps), ρ := Bool, R := l_is_point_R K C, f := (bodyF (ps := l_is_point_ps) (ls := l_is_point_ls) l_is_point_m) }
theorem l_is_point_sc : FnScope ["roads", "actual"] ["roads", "actual"] (defScope (topS 29)) := ⟨rfl, rfl, rfl, by decide +kernel, rfl, by decide +kernel, by decide +kernel⟩
theorem l_is_point_ok {fa : Addr} {fd : FuncData} (F : Fun K "_law_is_point" "_law_is_point" (topS 29) fa fd) (TC0 : TC K (C 0)) (RU : RuA K mg (clsR C)) {a_l_is_integer : Addr} {d_l_is_integer : FuncData} (G_l_is_integer : FnOk Pr w K mg base CX0 1 a_l_is_integer d_l_is_integer ["actual"] (spF (l_is_integer_fs K C))) (b_l_is_integer : Binds K d_l_is_integer ["actual"] []) (g_l_is_integer : mg "_law_is_integer" = some (.ref a_l_is_integer)) (k_l_is_integer : PySem.W.keepIn K (.ref a_l_is_integer) = true) (z_isinstance : mg "isinstance" = none) (z_tuple : mg "tuple" = none) (z_len : mg "len" = none) : FnOk Pr w K mg base CX0 2 fa fd ["roads", "actual"] (spF (l_is_point_fs K C)) := by
  refine fs_ok (k := 1) F l_is_point_sc (ps := l_is_point_ps) (ls := l_is_point_ls) (m := l_is_point_m) rfl rfl fun cdv A outer s H vs E hl hr => ?_
  obtain ⟨v0, v1, rfl⟩ := len2 hl
  have hu : (A.deeper (PyProof.Rows.envOfC "_law_is_point" (defScope (topS 29)) s.heap.objs.size fa cdv)).units + 65 < cLine := by have := hr.un; omega
  refine ⟨l_is_point_G K C v0 v1, l_is_point_Gr K C v0 v1, l_is_point_G K C v0 v1, ⟨fun _ _ _ _ _ _ h => h, fun _ _ _ _ _ _ h => h, trivial⟩, ⟨fun _ _ _ _ _ _ _ _ => trivial, fun _ _ _ _ _ _ _ _ => trivial, trivial⟩, ?_⟩
  exact (.cons (Γ1 := l_is_point_G _ C v0 v1)
    (.ite (.ofW (.or (.not (.val (.isinst (T := "tuple") (t := "tuple") (T' := "tuple") (r := true) ty_tup2 (by decide +kernel) (by rfl) z_isinstance (by rfl) z_tuple (by decide +kernel) (.name (x := l_is_point_actual) (pv 1) rfl rfl)))) (.or1 (.ofC (.ne (.len2 (by rfl) z_len (.name (x := l_is_point_actual) (pv 1) rfl rfl)) .int hu))))) (.one (.ret .bl ⟨.inr rfl, ⟨.inr rfl, trivial⟩⟩)) XSs.nil)
  (.cons (Γ1 := l_is_point_G _ C v0 v1)
    (.ite (.ofW (.or (.not (.val (.call (.v .nil) G_l_is_integer (hr.mono (by decide)) (by rfl) g_l_is_integer k_l_is_integer b_l_is_integer (.v rfl (.fst (.name (x := l_is_point_actual) (pv 1) rfl rfl)) XA.nil) (om := trivial)))) (.or1 (.not (.val (.call (.v .nil) G_l_is_integer (hr.mono (by decide)) (by rfl) g_l_is_integer k_l_is_integer b_l_is_integer (.v rfl (.snd (.name (x := l_is_point_actual) (pv 1) rfl rfl)) XA.nil) (om := trivial))))))) (.one (.ret .bl ⟨.inr rfl, ⟨.inr rfl, trivial⟩⟩)) XSs.nil)
  (.cons (Γ1 := l_is_point_G _ C v0 v1)
    (.ite (.ofC (.eq (.fst (.name (x := l_is_point_actual) (pv 1) rfl rfl)) .int hu)) (.one (.ret (.ofC (.eq (.snd (.name (x := l_is_point_actual) (pv 1) rfl rfl)) .int hu)) ⟨.inr rfl, ⟨.inr rfl, trivial⟩⟩)) XSs.nil)
  (.one (.ret (.and (.chn ci_lt ci_le .int (.fst (.name (x := l_is_point_actual) (pv 1) rfl rfl)) (.len (by rfl) z_len (.name (x := l_is_point_roads) (pv 0) rfl rfl))) (.one (.chn ci_le ci_lt .int (.snd (.name (x := l_is_point_actual) (pv 1) rfl rfl)) (.snd (.idx (.name (x := l_is_point_roads) (pv 0) rfl rfl) (.sub (.fst (.name (x := l_is_point_actual) (pv 1) rfl rfl)) .int)))))) ⟨.inr rfl, ⟨.inr rfl, trivial⟩⟩)))))
/-! ### _law_stop -/
abbrev l_stop_N : List Str := ["roads", "crew", "call", "gone", "i", "ways", "stop", "j", "between", "own", "theirs", "point"]
abbrev l_stop_ps : List Type := [List (Int × Int), List (Int × Int), (Int × Int), List Int, Int]
abbrev l_stop_ls : List Type := [List Int, Int, Int, Int, Int, Int, (Int × Int)]
abbrev l_stop_T : List Type := [List (Int × Int), List (Int × Int), (Int × Int), List Int, Int, List Int, Int, Int, Int, Int, Int, (Int × Int)]
abbrev l_stop_roads : Var l_stop_T (List (Int × Int)) := .vz
abbrev l_stop_crew : Var l_stop_T (List (Int × Int)) := .vs .vz
abbrev l_stop_call : Var l_stop_T (Int × Int) := .vs (.vs .vz)
abbrev l_stop_gone : Var l_stop_T (List Int) := .vs (.vs (.vs .vz))
abbrev l_stop_i : Var l_stop_T Int := .vs (.vs (.vs (.vs .vz)))
abbrev l_stop_ways : Var l_stop_T (List Int) := .vs (.vs (.vs (.vs (.vs .vz))))
abbrev l_stop_stop : Var l_stop_T Int := .vs (.vs (.vs (.vs (.vs (.vs .vz)))))
abbrev l_stop_j : Var l_stop_T Int := .vs (.vs (.vs (.vs (.vs (.vs (.vs .vz))))))
abbrev l_stop_between : Var l_stop_T Int := .vs (.vs (.vs (.vs (.vs (.vs (.vs (.vs .vz)))))))
abbrev l_stop_own : Var l_stop_T Int := .vs (.vs (.vs (.vs (.vs (.vs (.vs (.vs (.vs .vz))))))))
abbrev l_stop_theirs : Var l_stop_T Int := .vs (.vs (.vs (.vs (.vs (.vs (.vs (.vs (.vs (.vs .vz)))))))))
abbrev l_stop_point : Var l_stop_T (Int × Int) := .vs (.vs (.vs (.vs (.vs (.vs (.vs (.vs (.vs (.vs (.vs .vz))))))))))
abbrev l_stop_G (K : Fr) (C : Nat → Addr) (v0 v1 v2 v3 v4 : V) : RTs K l_stop_T := ((RT.dat K (List (Int × Int)), ((RT.dat K (List (Int × Int)), ((RT.dat K (Int × Int), ((RT.dat K (List Int), ((RT.dat K Int, ((RT.dat K (List Int), ((RT.dat K Int, ((RT.dat K Int, ((RT.dat K Int, ((RT.dat K Int, ((RT.dat K Int, ((RT.dat K (Int × Int), ()) : RT K (Int × Int) × RTs K [])) : RT K Int × RTs K [(Int × Int)])) : RT K Int × RTs K [Int, (Int × Int)])) : RT K Int × RTs K [Int, Int, (Int × Int)])) : RT K Int × RTs K [Int, Int, Int, (Int × Int)])) : RT K Int × RTs K [Int, Int, Int, Int, (Int × Int)])) : RT K (List Int) × RTs K [Int, Int, Int, Int, Int, (Int × Int)])) : RT K Int × RTs K [List Int, Int, Int, Int, Int, Int, (Int × Int)])) : RT K (List Int) × RTs K [Int, List Int, Int, Int, Int, Int, Int, (Int × Int)])) : RT K (Int × Int) × RTs K [List Int, Int, List Int, Int, Int, Int, Int, Int, (Int × Int)])) : RT K (List (Int × Int)) × RTs K [(Int × Int), List Int, Int, List Int, Int, Int, Int, Int, Int, (Int × Int)])) : RT K (List (Int × Int)) × RTs K [List (Int × Int), (Int × Int), List Int, Int, List Int, Int, Int, Int, Int, Int, (Int × Int)])
abbrev l_stop_Gr (K : Fr) (C : Nat → Addr) (v0 v1 v2 v3 v4 : V) : RTs K l_stop_T := ((RT.dead K (List (Int × Int)), ((RT.dead K (List (Int × Int)), ((RT.dead K (Int × Int), ((RT.dead K (List Int), ((RT.dead K Int, ((RT.dead K (List Int), ((RT.dead K Int, ((RT.dead K Int, ((RT.dead K Int, ((RT.dead K Int, ((RT.dead K Int, ((RT.dead K (Int × Int), ()) : RT K (Int × Int) × RTs K [])) : RT K Int × RTs K [(Int × Int)])) : RT K Int × RTs K [Int, (Int × Int)])) : RT K Int × RTs K [Int, Int, (Int × Int)])) : RT K Int × RTs K [Int, Int, Int, (Int × Int)])) : RT K Int × RTs K [Int, Int, Int, Int, (Int × Int)])) : RT K (List Int) × RTs K [Int, Int, Int, Int, Int, (Int × Int)])) : RT K Int × RTs K [List Int, Int, Int, Int, Int, Int, (Int × Int)])) : RT K (List Int) × RTs K [Int, List Int, Int, Int, Int, Int, Int, (Int × Int)])) : RT K (Int × Int) × RTs K [List Int, Int, List Int, Int, Int, Int, Int, Int, (Int × Int)])) : RT K (List (Int × Int)) × RTs K [(Int × Int), List Int, Int, List Int, Int, Int, Int, Int, Int, (Int × Int)])) : RT K (List (Int × Int)) × RTs K [List (Int × Int), (Int × Int), List Int, Int, List Int, Int, Int, Int, Int, Int, (Int × Int)])
abbrev l_stop_R (K : Fr) (C : Nat → Addr) : RT K Int := RT.dat K Int
noncomputable def l_stop_m : MS l_stop_T Int := (sSeq (sAsg l_stop_ways (mLc (mV l_stop_crew) (fun y s => l_stop_point.set (some y) s) (Own.one l_stop_point).rs (mC true) (mCall (.v (.v (.v .nil))) (bodyF (ps := l_far_ps) (ls := l_far_ls) l_far_m) (aV (mV l_stop_roads) (aV (mV l_stop_point) (aV (mV l_stop_call) aNil))))))
  (sSeq (sAsg l_stop_stop (m1 minL (mV l_stop_ways)))
  (sSeq (sFor (m1 rng (m1 ilen (mV l_stop_crew))) (fun y s => l_stop_j.set (some y) s) (sSeq (sAsg l_stop_between (mCall (.v (.v (.v .nil))) (bodyF (ps := l_far_ps) (ls := l_far_ls) l_far_m) (aV (mV l_stop_roads) (aV (m2 idx (mV l_stop_crew) (mV l_stop_i)) (aV (m2 idx (mV l_stop_crew) (mV l_stop_j)) aNil)))))
  (sSeq (sAsg l_stop_own (m2 idiv (m2 isub (m2 iadd (m2 idx (mV l_stop_ways) (mV l_stop_i)) (mV l_stop_between)) (m2 idx (mV l_stop_ways) (mV l_stop_j))) (mC (2 : Int))))
  (sSeq (sAsg l_stop_theirs (m2 idiv (m2 isub (m2 iadd (m2 idx (mV l_stop_ways) (mV l_stop_j)) (mV l_stop_between)) (m2 idx (mV l_stop_ways) (mV l_stop_i))) (mC (2 : Int))))
  (sIf (mAnd (m2 ine (mV l_stop_j) (mV l_stop_i)) (mAnd (m2 ige (m2 idx (mV l_stop_gone) (mV l_stop_j)) (mV l_stop_theirs)) (mOr (m2 ilt (mV l_stop_theirs) (mV l_stop_own)) (mAnd (m2 ieq (mV l_stop_theirs) (mV l_stop_own)) (m2 ilt (mV l_stop_j) (mV l_stop_i)))))) (sAsg l_stop_stop (m2 imin (mV l_stop_stop) (mV l_stop_theirs))) sSkip)))))
  (sRet (mV l_stop_stop)))))
noncomputable abbrev l_stop_fs (K : Fr) (C : Nat → Addr) : Fs K := { ps := l_stop_ps, Γp := (((RT.dat K (List (Int × Int)), ((RT.dat K (List (Int × Int)), ((RT.dat K (Int × Int), ((RT.dat K (List Int), ((RT.dat K Int, ()) : RT K Int × RTs K [])) : RT K (List Int) × RTs K [Int])) : RT K (Int × Int) × RTs K [List Int, Int])) : RT K (List (Int × Int)) × RTs K [(Int × Int), List Int, Int])) : RT K (List (Int × Int)) × RTs K [List (Int × Int), (Int × Int), List Int, Int]) : RTs K l_stop_ps), Γo := (((RT.dead K (List (Int × Int)), ((RT.dead K (List (Int × Int)), ((RT.dead K (Int × Int), ((RT.dead K (List Int), ((RT.dead K Int, ()) : RT K Int × RTs K [])) : RT K (List Int) × RTs K [Int])) : RT K (Int × Int) × RTs K [List Int, Int])) : RT K (List (Int × Int)) × RTs K [(Int × Int), List Int, Int])) : RT K (List (Int × Int)) × RTs K [List (Int × Int), (Int × Int), List Int, Int]) : RTs K l_stop_ps), ρ := Int, R := l_stop_R K C, f := (bodyF (ps := l_stop_ps) (ls := l_stop_ls) l_stop_m) }
theorem l_stop_sc : FnScope ["roads", "crew", "call", "gone", "i", "ways", "stop", "j", "between", "own", "theirs", "point"] ["roads", "crew", "call", "gone", "i"] (defScope (topS 31)) := ⟨rfl, rfl, rfl, by decide +kernel, rfl, by decide +kernel, by decide +kernel⟩
theorem l_stop_ok {fa : Addr} {fd : FuncData} (F : Fun K "_law_stop" "_law_stop" (topS 31) fa fd) (TC0 : TC K (C 0)) (RU : RuA K mg (clsR C)) {a_l_far : Addr} {d_l_far : FuncData} (G_l_far : FnOk Pr w K mg base CX0 1 a_l_far d_l_far ["roads", "one", "other"] (spF (l_far_fs K C))) (b_l_far : Binds K d_l_far ["roads", "one", "other"] []) (g_l_far : mg "_law_far" = some (.ref a_l_far)) (k_l_far : PySem.W.keepIn K (.ref a_l_far) = true) (z_min : mg "min" = none) (z_range : mg "range" = none) (z_len : mg "len" = none) : FnOk Pr w K mg base CX0 2 fa fd ["roads", "crew", "call", "gone", "i"] (spF (l_stop_fs K C)) := by
  refine fs_ok (k := 1) F l_stop_sc (ps := l_stop_ps) (ls := l_stop_ls) (m := l_stop_m) rfl rfl fun cdv A outer s H vs E hl hr => ?_
  obtain ⟨v0, v1, v2, v3, v4, rfl⟩ := len5 hl
  have hu : (A.deeper (PyProof.Rows.envOfC "_law_stop" (defScope (topS 31)) s.heap.objs.size fa cdv)).units + 65 < cLine := by have := hr.un; omega
  refine ⟨l_stop_G K C v0 v1 v2 v3 v4, l_stop_Gr K C v0 v1 v2 v3 v4, l_stop_G K C v0 v1 v2 v3 v4, ⟨fun _ _ _ _ _ _ h => h, fun _ _ _ _ _ _ h => h, fun _ _ _ _ _ _ h => h, fun _ _ _ _ _ _ h => h, fun _ _ _ _ _ _ h => h, trivial⟩, ⟨fun _ _ _ _ _ _ _ _ => trivial, fun _ _ _ _ _ _ _ _ => trivial, fun _ _ _ _ _ _ _ _ => trivial, fun _ _ _ _ _ _ _ _ => trivial, fun _ _ _ _ _ _ _ _ => trivial, trivial⟩, ?_⟩
  exact (.cons (Γ1 := l_stop_G _ C v0 v1 v2 v3 v4)
    (.asgLcG (z := l_stop_ways) (Γb := (l_stop_G _ C v0 v1 v2 v3 v4)) (own := [("point", 11)]) rfl l_stop_sc.nd (blkOk_by (N := l_stop_N) (sc := defScope (topS 31)) (by decide +kernel)) (Own.one l_stop_point) rfl rfl (sw_true rfl rfl rfl (by decide +kernel)) (.list (.name (x := l_stop_crew) (pv 1) rfl rfl)) (fixAt rfl) (fun _ _ _ => rfl) (fun _ _ _ _ _ => (.name (x := l_stop_point) rfl l_stop_sc.nd rfl (.inl rfl))) (fun _ _ _ _ _ => XTs.nil) (fun _ _ _ _ _ => (.call (.v (.v (.v .nil))) G_l_far (hr.mono (by decide)) (by rfl) g_l_far k_l_far b_l_far (.v rfl (.name (x := l_stop_roads) (pv 0) rfl rfl) (.v rfl (.name (x := l_stop_point) (pv 11) rfl rfl) (.v rfl (.name (x := l_stop_call) (pv 2) rfl rfl) XA.nil))) (om := trivial))) (tr := fun t h => (XV.dat h)))
  (.cons (Γ1 := l_stop_G _ C v0 v1 v2 v3 v4)
    (.asg (x := l_stop_stop) (.min1 rfl (by rfl) z_min (.name (x := l_stop_ways) (pv 5) rfl rfl)) l_stop_sc.nd rfl (.inl rfl))
  (.cons (Γ1 := l_stop_G _ C v0 v1 v2 v3 v4)
    (.for_ PassesOwn.never rfl (.range1 (by rfl) z_range (.len (by rfl) z_len (.name (x := l_stop_crew) (pv 1) rfl rfl))) ⟨.inl rfl, ⟨.inl rfl, ⟨.inl rfl, ⟨.inl rfl, ⟨.inl rfl, ⟨.inl rfl, ⟨.inl rfl, ⟨.inl rfl, ⟨.inl rfl, ⟨.inl rfl, ⟨.inl rfl, ⟨.inl rfl, trivial⟩⟩⟩⟩⟩⟩⟩⟩⟩⟩⟩⟩ (.name (x := l_stop_j) rfl l_stop_sc.nd rfl (.inl rfl)) (.cons (Γ1 := l_stop_G _ C v0 v1 v2 v3 v4)
    (.asg (x := l_stop_between) (.call (.v (.v (.v .nil))) G_l_far (hr.mono (by decide)) (by rfl) g_l_far k_l_far b_l_far (.v rfl (.name (x := l_stop_roads) (pv 0) rfl rfl) (.v rfl (.idx (.name (x := l_stop_crew) (pv 1) rfl rfl) (.name (x := l_stop_i) (pv 4) rfl rfl)) (.v rfl (.idx (.name (x := l_stop_crew) (pv 1) rfl rfl) (.name (x := l_stop_j) (pv 7) rfl rfl)) XA.nil))) (om := trivial)) l_stop_sc.nd rfl (.inl rfl))
  (.cons (Γ1 := l_stop_G _ C v0 v1 v2 v3 v4)
    (.asg (x := l_stop_own) (.fdiv (.sub (.add (.idx (.name (x := l_stop_ways) (pv 5) rfl rfl) (.name (x := l_stop_i) (pv 4) rfl rfl)) (.name (x := l_stop_between) (pv 8) rfl rfl)) (.idx (.name (x := l_stop_ways) (pv 5) rfl rfl) (.name (x := l_stop_j) (pv 7) rfl rfl))) .int) l_stop_sc.nd rfl (.inl rfl))
  (.cons (Γ1 := l_stop_G _ C v0 v1 v2 v3 v4)
    (.asg (x := l_stop_theirs) (.fdiv (.sub (.add (.idx (.name (x := l_stop_ways) (pv 5) rfl rfl) (.name (x := l_stop_j) (pv 7) rfl rfl)) (.name (x := l_stop_between) (pv 8) rfl rfl)) (.idx (.name (x := l_stop_ways) (pv 5) rfl rfl) (.name (x := l_stop_i) (pv 4) rfl rfl))) .int) l_stop_sc.nd rfl (.inl rfl))
  (.one (.ite (.ofW (.and (.ofC (.ne (.name (x := l_stop_j) (pv 7) rfl rfl) (.name (x := l_stop_i) (pv 4) rfl rfl) hu)) (.and (.ofC (.ge (.idx (.name (x := l_stop_gone) (pv 3) rfl rfl) (.name (x := l_stop_j) (pv 7) rfl rfl)) (.name (x := l_stop_theirs) (pv 10) rfl rfl))) (.and1 (.ofW (.or (.ofC (.lt (.name (x := l_stop_theirs) (pv 10) rfl rfl) (.name (x := l_stop_own) (pv 9) rfl rfl))) (.or1 (.ofW (.and (.ofC (.eq (.name (x := l_stop_theirs) (pv 10) rfl rfl) (.name (x := l_stop_own) (pv 9) rfl rfl) hu)) (.and1 (.ofC (.lt (.name (x := l_stop_j) (pv 7) rfl rfl) (.name (x := l_stop_i) (pv 4) rfl rfl))))))))))))) (.one (.asg (x := l_stop_stop) (.min2 rfl (by rfl) z_min (.name (x := l_stop_stop) (pv 6) rfl rfl) (.name (x := l_stop_theirs) (pv 10) rfl rfl)) l_stop_sc.nd rfl (.inl rfl))) XSs.nil))))))
  (.one (.ret (.name (x := l_stop_stop) (pv 6) rfl rfl) ⟨.inr rfl, ⟨.inr rfl, ⟨.inr rfl, ⟨.inr rfl, ⟨.inr rfl, ⟨.inr rfl, ⟨.inr rfl, ⟨.inr rfl, ⟨.inr rfl, ⟨.inr rfl, ⟨.inr rfl, ⟨.inr rfl, trivial⟩⟩⟩⟩⟩⟩⟩⟩⟩⟩⟩⟩)))))
/-! ### _law_helpers -/
abbrev l_helpers_N : List Str := ["source", "roads", "many", "crew", "k", "again"]
abbrev l_helpers_ps : List Type := [List Int, List (Int × Int), Int]
abbrev l_helpers_ls : List Type := [List (Int × Int), Int, Int]
abbrev l_helpers_T : List Type := [List Int, List (Int × Int), Int, List (Int × Int), Int, Int]
abbrev l_helpers_source : Var l_helpers_T (List Int) := .vz
abbrev l_helpers_roads : Var l_helpers_T (List (Int × Int)) := .vs .vz
abbrev l_helpers_many : Var l_helpers_T Int := .vs (.vs .vz)
abbrev l_helpers_crew : Var l_helpers_T (List (Int × Int)) := .vs (.vs (.vs .vz))
abbrev l_helpers_k : Var l_helpers_T Int := .vs (.vs (.vs (.vs .vz)))
abbrev l_helpers_again : Var l_helpers_T Int := .vs (.vs (.vs (.vs (.vs .vz))))
abbrev l_helpers_G (K : Fr) (C : Nat → Addr) (v0 v1 v2 : V) : RTs K l_helpers_T := ((RT.at v0 (RT.own K Int), ((RT.dat K (List (Int × Int)), ((RT.dat K Int, ((RT.own K (Int × Int), ((RT.dat K Int, ((RT.dat K Int, ()) : RT K Int × RTs K [])) : RT K Int × RTs K [Int])) : RT K (List (Int × Int)) × RTs K [Int, Int])) : RT K Int × RTs K [List (Int × Int), Int, Int])) : RT K (List (Int × Int)) × RTs K [Int, List (Int × Int), Int, Int])) : RT K (List Int) × RTs K [List (Int × Int), Int, List (Int × Int), Int, Int])
abbrev l_helpers_Gr (K : Fr) (C : Nat → Addr) (v0 v1 v2 : V) : RTs K l_helpers_T := ((RT.at v0 (RT.own K Int), ((RT.dead K (List (Int × Int)), ((RT.dead K Int, ((RT.dead K (List (Int × Int)), ((RT.dead K Int, ((RT.dead K Int, ()) : RT K Int × RTs K [])) : RT K Int × RTs K [Int])) : RT K (List (Int × Int)) × RTs K [Int, Int])) : RT K Int × RTs K [List (Int × Int), Int, Int])) : RT K (List (Int × Int)) × RTs K [Int, List (Int × Int), Int, Int])) : RT K (List Int) × RTs K [List (Int × Int), Int, List (Int × Int), Int, Int])
abbrev l_helpers_R (K : Fr) (C : Nat → Addr) : RT K (List (Int × Int)) := RT.own K (Int × Int)
noncomputable def l_helpers_m : MS l_helpers_T (List (Int × Int)) := (sSeq (sAsg l_helpers_crew (m1 lstO (mC ([] : List (Int × Int)))))
  (sSeq (sFor (m1 rng (mV l_helpers_many)) (fun y s => l_helpers_k.set (some y) s) (sSeq (sAsg l_helpers_again (mCall (.m l_helpers_source (.v .nil)) (bodyF (ps := l_pick_ps) (ls := l_pick_ls) l_pick_m) (aM l_helpers_source (aV (mC (4 : Int)) aNil))))
  (sIf (mAnd (m2 ieq (mV l_helpers_again) (mC (3 : Int))) (m2 igt (mV l_helpers_k) (mC (0 : Int)))) (sApp l_helpers_crew (m2 idx (mV l_helpers_crew) (mCall (.m l_helpers_source (.v .nil)) (bodyF (ps := l_pick_ps) (ls := l_pick_ls) l_pick_m) (aM l_helpers_source (aV (mV l_helpers_k) aNil))))) (sApp l_helpers_crew (mCall (.m l_helpers_source (.v .nil)) (bodyF (ps := l_point_ps) (ls := l_point_ls) l_point_m) (aM l_helpers_source (aV (mV l_helpers_roads) aNil)))))))
  (sRet (mV l_helpers_crew))))
noncomputable abbrev l_helpers_fs (K : Fr) (C : Nat → Addr) : Fs K := { ps := l_helpers_ps, Γp := (((RT.own K Int, ((RT.dat K (List (Int × Int)), ((RT.dat K Int, ()) : RT K Int × RTs K [])) : RT K (List (Int × Int)) × RTs K [Int])) : RT K (List Int) × RTs K [List (Int × Int), Int]) : RTs K l_helpers_ps), Γo := (((RT.own K Int, ((RT.dead K (List (Int × Int)), ((RT.dead K Int, ()) : RT K Int × RTs K [])) : RT K (List (Int × Int)) × RTs K [Int])) : RT K (List Int) × RTs K [List (Int × Int), Int]) : RTs K l_helpers_ps), ρ := List (Int × Int), R := l_helpers_R K C, f := (bodyF (ps := l_helpers_ps) (ls := l_helpers_ls) l_helpers_m) }
theorem l_helpers_sc : FnScope ["source", "roads", "many", "crew", "k", "again"] ["source", "roads", "many"] (defScope (topS 26)) := ⟨rfl, rfl, rfl, by decide +kernel, rfl, by decide +kernel, by decide +kernel⟩
theorem l_helpers_ok {fa : Addr} {fd : FuncData} (F : Fun K "_law_helpers" "_law_helpers" (topS 26) fa fd) (TC0 : TC K (C 0)) (RU : RuA K mg (clsR C)) {a_l_pick : Addr} {d_l_pick : FuncData} (G_l_pick : FnOk Pr w K mg base CX0 1 a_l_pick d_l_pick ["source", "size"] (spF (l_pick_fs K C))) (b_l_pick : Binds K d_l_pick ["source", "size"] []) (g_l_pick : mg "_law_pick" = some (.ref a_l_pick)) (k_l_pick : PySem.W.keepIn K (.ref a_l_pick) = true) {a_l_point : Addr} {d_l_point : FuncData} (G_l_point : FnOk Pr w K mg base CX0 2 a_l_point d_l_point ["source", "roads"] (spF (l_point_fs K C))) (b_l_point : Binds K d_l_point ["source", "roads"] []) (g_l_point : mg "_law_point" = some (.ref a_l_point)) (k_l_point : PySem.W.keepIn K (.ref a_l_point) = true) (z_range : mg "range" = none) : FnOk Pr w K mg base CX0 3 fa fd ["source", "roads", "many"] (spF (l_helpers_fs K C)) := by
  refine fs_ok (k := 2) F l_helpers_sc (ps := l_helpers_ps) (ls := l_helpers_ls) (m := l_helpers_m) rfl rfl fun cdv A outer s H vs E hl hr => ?_
  obtain ⟨v0, v1, v2, rfl⟩ := len3 hl
  have hu : (A.deeper (PyProof.Rows.envOfC "_law_helpers" (defScope (topS 26)) s.heap.objs.size fa cdv)).units + 65 < cLine := by have := hr.un; omega
  refine ⟨l_helpers_G K C v0 v1 v2, l_helpers_Gr K C v0 v1 v2, l_helpers_G K C v0 v1 v2, ⟨fun v G H x A e h => ⟨(Option.some.inj e).symm, h⟩, fun _ _ _ _ _ _ h => h, fun _ _ _ _ _ _ h => h, trivial⟩, ⟨fun v u G H x A e h => by cases (Option.some.inj e); cases h.1; exact h.2, fun _ _ _ _ _ _ _ _ => trivial, fun _ _ _ _ _ _ _ _ => trivial, trivial⟩, ?_⟩
  exact (.cons (Γ1 := l_helpers_G _ C v0 v1 v2)
    (.asg (x := l_helpers_crew) (.lst .nil) l_helpers_sc.nd rfl (.inl rfl))
  (.cons (Γ1 := l_helpers_G _ C v0 v1 v2)
    (.for_ PassesOwn.never rfl (.range1 (by rfl) z_range (.name (x := l_helpers_many) (pv 2) rfl rfl)) ⟨.inl rfl, ⟨.inl rfl, ⟨.inl rfl, ⟨.inl rfl, ⟨.inl rfl, ⟨.inl rfl, trivial⟩⟩⟩⟩⟩⟩ (.name (x := l_helpers_k) rfl l_helpers_sc.nd rfl (.inl rfl)) (.cons (Γ1 := l_helpers_G _ C v0 v1 v2)
    (.asg (x := l_helpers_again) (.call (.m l_helpers_source (.v .nil)) G_l_pick (hr.mono (by decide)) (by rfl) g_l_pick k_l_pick b_l_pick (.m (x := l_helpers_source) (pv 0) .at rfl (.v rfl .int XA.nil)) (om := ⟨rfl, trivial⟩)) l_helpers_sc.nd rfl (.inl rfl))
  (.one (.ite (.ofW (.and (.ofC (.eq (.name (x := l_helpers_again) (pv 5) rfl rfl) .int hu)) (.and1 (.ofC (.gt (.name (x := l_helpers_k) (pv 4) rfl rfl) .int))))) (.one (.app (x := l_helpers_crew) (pv 3) .refl (.borrow l_helpers_crew (.idx (.var (x := l_helpers_crew) (pv 3) rfl rfl (fun _ _ _ h => h)) (.call (.m l_helpers_source (.v .nil)) G_l_pick (hr.mono (by decide)) (by rfl) g_l_pick k_l_pick b_l_pick (.m (x := l_helpers_source) (pv 0) .at rfl (.v rfl (.name (x := l_helpers_k) (pv 4) rfl rfl) XA.nil)) (om := ⟨rfl, trivial⟩))) (lin_dat)))) (.one (.app (x := l_helpers_crew) (pv 3) .refl (.call (.m l_helpers_source (.v .nil)) G_l_point (hr.mono (by decide)) (by rfl) g_l_point k_l_point b_l_point (.m (x := l_helpers_source) (pv 0) .at rfl (.v rfl (.name (x := l_helpers_roads) (pv 1) rfl rfl) XA.nil)) (om := ⟨rfl, trivial⟩))))))))
  (.one (.retV (x := l_helpers_crew) (pv 3) rfl ⟨.inl rfl, ⟨.inr rfl, ⟨.inr rfl, ⟨.inr rfl, ⟨.inr rfl, ⟨.inr rfl, trivial⟩⟩⟩⟩⟩⟩))))
/-! ### _law_calls -/
abbrev l_calls_N : List Str := ["source", "roads", "crew", "many", "calls", "k", "again"]
abbrev l_calls_ps : List Type := [List Int, List (Int × Int), List (Int × Int), Int]
abbrev l_calls_ls : List Type := [List (Int × Int), Int, Int]
abbrev l_calls_T : List Type := [List Int, List (Int × Int), List (Int × Int), Int, List (Int × Int), Int, Int]
abbrev l_calls_source : Var l_calls_T (List Int) := .vz
abbrev l_calls_roads : Var l_calls_T (List (Int × Int)) := .vs .vz
abbrev l_calls_crew : Var l_calls_T (List (Int × Int)) := .vs (.vs .vz)
abbrev l_calls_many : Var l_calls_T Int := .vs (.vs (.vs .vz))
abbrev l_calls_calls : Var l_calls_T (List (Int × Int)) := .vs (.vs (.vs (.vs .vz)))
abbrev l_calls_k : Var l_calls_T Int := .vs (.vs (.vs (.vs (.vs .vz))))
abbrev l_calls_again : Var l_calls_T Int := .vs (.vs (.vs (.vs (.vs (.vs .vz)))))
abbrev l_calls_G (K : Fr) (C : Nat → Addr) (v0 v1 v2 v3 : V) : RTs K l_calls_T := ((RT.at v0 (RT.own K Int), ((RT.dat K (List (Int × Int)), ((RT.dat K (List (Int × Int)), ((RT.dat K Int, ((RT.own K (Int × Int), ((RT.dat K Int, ((RT.dat K Int, ()) : RT K Int × RTs K [])) : RT K Int × RTs K [Int])) : RT K (List (Int × Int)) × RTs K [Int, Int])) : RT K Int × RTs K [List (Int × Int), Int, Int])) : RT K (List (Int × Int)) × RTs K [Int, List (Int × Int), Int, Int])) : RT K (List (Int × Int)) × RTs K [List (Int × Int), Int, List (Int × Int), Int, Int])) : RT K (List Int) × RTs K [List (Int × Int), List (Int × Int), Int, List (Int × Int), Int, Int])
abbrev l_calls_Gr (K : Fr) (C : Nat → Addr) (v0 v1 v2 v3 : V) : RTs K l_calls_T := ((RT.at v0 (RT.own K Int), ((RT.dead K (List (Int × Int)), ((RT.dead K (List (Int × Int)), ((RT.dead K Int, ((RT.dead K (List (Int × Int)), ((RT.dead K Int, ((RT.dead K Int, ()) : RT K Int × RTs K [])) : RT K Int × RTs K [Int])) : RT K (List (Int × Int)) × RTs K [Int, Int])) : RT K Int × RTs K [List (Int × Int), Int, Int])) : RT K (List (Int × Int)) × RTs K [Int, List (Int × Int), Int, Int])) : RT K (List (Int × Int)) × RTs K [List (Int × Int), Int, List (Int × Int), Int, Int])) : RT K (List Int) × RTs K [List (Int × Int), List (Int × Int), Int, List (Int × Int), Int, Int])
abbrev l_calls_R (K : Fr) (C : Nat → Addr) : RT K (List (Int × Int)) := RT.own K (Int × Int)
noncomputable def l_calls_m : MS l_calls_T (List (Int × Int)) := (sSeq (sAsg l_calls_calls (m1 lstO (mC ([] : List (Int × Int)))))
  (sSeq (sFor (m1 rng (mV l_calls_many)) (fun y s => l_calls_k.set (some y) s) (sSeq (sAsg l_calls_again (mCall (.m l_calls_source (.v .nil)) (bodyF (ps := l_pick_ps) (ls := l_pick_ls) l_pick_m) (aM l_calls_source (aV (mC (5 : Int)) aNil))))
  (sIf (m2 ieq (mV l_calls_again) (mC (4 : Int))) (sApp l_calls_calls (m2 idx (mV l_calls_crew) (mCall (.m l_calls_source (.v .nil)) (bodyF (ps := l_pick_ps) (ls := l_pick_ls) l_pick_m) (aM l_calls_source (aV (m1 ilen (mV l_calls_crew)) aNil))))) (sIf (mAnd (m2 ieq (mV l_calls_again) (mC (3 : Int))) (m2 igt (mV l_calls_k) (mC (0 : Int)))) (sApp l_calls_calls (m2 idx (mV l_calls_calls) (mCall (.m l_calls_source (.v .nil)) (bodyF (ps := l_pick_ps) (ls := l_pick_ls) l_pick_m) (aM l_calls_source (aV (mV l_calls_k) aNil))))) (sApp l_calls_calls (mCall (.m l_calls_source (.v .nil)) (bodyF (ps := l_point_ps) (ls := l_point_ls) l_point_m) (aM l_calls_source (aV (mV l_calls_roads) aNil))))))))
  (sRet (mV l_calls_calls))))
noncomputable abbrev l_calls_fs (K : Fr) (C : Nat → Addr) : Fs K := { ps := l_calls_ps, Γp := (((RT.own K Int, ((RT.dat K (List (Int × Int)), ((RT.dat K (List (Int × Int)), ((RT.dat K Int, ()) : RT K Int × RTs K [])) : RT K (List (Int × Int)) × RTs K [Int])) : RT K (List (Int × Int)) × RTs K [List (Int × Int), Int])) : RT K (List Int) × RTs K [List (Int × Int), List (Int × Int), Int]) : RTs K l_calls_ps), Γo := (((RT.own K Int, ((RT.dead K (List (Int × Int)), ((RT.dead K (List (Int × Int)), ((RT.dead K Int, ()) : RT K Int × RTs K [])) : RT K (List (Int × Int)) × RTs K [Int])) : RT K (List (Int × Int)) × RTs K [List (Int × Int), Int])) : RT K (List Int) × RTs K [List (Int × Int), List (Int × Int), Int]) : RTs K l_calls_ps), ρ := List (Int × Int), R := l_calls_R K C, f := (bodyF (ps := l_calls_ps) (ls := l_calls_ls) l_calls_m) }
theorem l_calls_sc : FnScope ["source", "roads", "crew", "many", "calls", "k", "again"] ["source", "roads", "crew", "many"] (defScope (topS 27)) := ⟨rfl, rfl, rfl, by decide +kernel, rfl, by decide +kernel, by decide +kernel⟩
theorem l_calls_ok {fa : Addr} {fd : FuncData} (F : Fun K "_law_calls" "_law_calls" (topS 27) fa fd) (TC0 : TC K (C 0)) (RU : RuA K mg (clsR C)) {a_l_pick : Addr} {d_l_pick : FuncData} (G_l_pick : FnOk Pr w K mg base CX0 1 a_l_pick d_l_pick ["source", "size"] (spF (l_pick_fs K C))) (b_l_pick : Binds K d_l_pick ["source", "size"] []) (g_l_pick : mg "_law_pick" = some (.ref a_l_pick)) (k_l_pick : PySem.W.keepIn K (.ref a_l_pick) = true) {a_l_point : Addr} {d_l_point : FuncData} (G_l_point : FnOk Pr w K mg base CX0 2 a_l_point d_l_point ["source", "roads"] (spF (l_point_fs K C))) (b_l_point : Binds K d_l_point ["source", "roads"] []) (g_l_point : mg "_law_point" = some (.ref a_l_point)) (k_l_point : PySem.W.keepIn K (.ref a_l_point) = true) (z_range : mg "range" = none) (z_len : mg "len" = none) : FnOk Pr w K mg base CX0 3 fa fd ["source", "roads", "crew", "many"] (spF (l_calls_fs K C)) := by
  refine fs_ok (k := 2) F l_calls_sc (ps := l_calls_ps) (ls := l_calls_ls) (m := l_calls_m) rfl rfl fun cdv A outer s H vs E hl hr => ?_
  obtain ⟨v0, v1, v2, v3, rfl⟩ := len4 hl
  have hu : (A.deeper (PyProof.Rows.envOfC "_law_calls" (defScope (topS 27)) s.heap.objs.size fa cdv)).units + 65 < cLine := by have := hr.un; omega
  refine ⟨l_calls_G K C v0 v1 v2 v3, l_calls_Gr K C v0 v1 v2 v3, l_calls_G K C v0 v1 v2 v3, ⟨fun v G H x A e h => ⟨(Option.some.inj e).symm, h⟩, fun _ _ _ _ _ _ h => h, fun _ _ _ _ _ _ h => h, fun _ _ _ _ _ _ h => h, trivial⟩, ⟨fun v u G H x A e h => by cases (Option.some.inj e); cases h.1; exact h.2, fun _ _ _ _ _ _ _ _ => trivial, fun _ _ _ _ _ _ _ _ => trivial, fun _ _ _ _ _ _ _ _ => trivial, trivial⟩, ?_⟩
  exact (.cons (Γ1 := l_calls_G _ C v0 v1 v2 v3)
    (.asg (x := l_calls_calls) (.lst .nil) l_calls_sc.nd rfl (.inl rfl))
  (.cons (Γ1 := l_calls_G _ C v0 v1 v2 v3)
    (.for_ PassesOwn.never rfl (.range1 (by rfl) z_range (.name (x := l_calls_many) (pv 3) rfl rfl)) ⟨.inl rfl, ⟨.inl rfl, ⟨.inl rfl, ⟨.inl rfl, ⟨.inl rfl, ⟨.inl rfl, ⟨.inl rfl, trivial⟩⟩⟩⟩⟩⟩⟩ (.name (x := l_calls_k) rfl l_calls_sc.nd rfl (.inl rfl)) (.cons (Γ1 := l_calls_G _ C v0 v1 v2 v3)
    (.asg (x := l_calls_again) (.call (.m l_calls_source (.v .nil)) G_l_pick (hr.mono (by decide)) (by rfl) g_l_pick k_l_pick b_l_pick (.m (x := l_calls_source) (pv 0) .at rfl (.v rfl .int XA.nil)) (om := ⟨rfl, trivial⟩)) l_calls_sc.nd rfl (.inl rfl))
  (.one (.ite (.ofC (.eq (.name (x := l_calls_again) (pv 6) rfl rfl) .int hu)) (.one (.app (x := l_calls_calls) (pv 4) .refl (.idx (.name (x := l_calls_crew) (pv 2) rfl rfl) (.call (.m l_calls_source (.v .nil)) G_l_pick (hr.mono (by decide)) (by rfl) g_l_pick k_l_pick b_l_pick (.m (x := l_calls_source) (pv 0) .at rfl (.v rfl (.len (by rfl) z_len (.name (x := l_calls_crew) (pv 2) rfl rfl)) XA.nil)) (om := ⟨rfl, trivial⟩))))) (.one (.ite (.ofW (.and (.ofC (.eq (.name (x := l_calls_again) (pv 6) rfl rfl) .int hu)) (.and1 (.ofC (.gt (.name (x := l_calls_k) (pv 5) rfl rfl) .int))))) (.one (.app (x := l_calls_calls) (pv 4) .refl (.borrow l_calls_calls (.idx (.var (x := l_calls_calls) (pv 4) rfl rfl (fun _ _ _ h => h)) (.call (.m l_calls_source (.v .nil)) G_l_pick (hr.mono (by decide)) (by rfl) g_l_pick k_l_pick b_l_pick (.m (x := l_calls_source) (pv 0) .at rfl (.v rfl (.name (x := l_calls_k) (pv 5) rfl rfl) XA.nil)) (om := ⟨rfl, trivial⟩))) (lin_dat)))) (.one (.app (x := l_calls_calls) (pv 4) .refl (.call (.m l_calls_source (.v .nil)) G_l_point (hr.mono (by decide)) (by rfl) g_l_point k_l_point b_l_point (.m (x := l_calls_source) (pv 0) .at rfl (.v rfl (.name (x := l_calls_roads) (pv 1) rfl rfl) XA.nil)) (om := ⟨rfl, trivial⟩))))))))))
  (.one (.retV (x := l_calls_calls) (pv 4) rfl ⟨.inl rfl, ⟨.inr rfl, ⟨.inr rfl, ⟨.inr rfl, ⟨.inr rfl, ⟨.inr rfl, ⟨.inr rfl, trivial⟩⟩⟩⟩⟩⟩⟩))))
/-! ### _law_are_points -/
abbrev l_are_points_N : List Str := ["roads", "actual", "many", "k"]
abbrev l_are_points_ps : List Type := [List (Int × Int), List (Int × Int), Int]
abbrev l_are_points_ls : List Type := [Int]
abbrev l_are_points_T : List Type := [List (Int × Int), List (Int × Int), Int, Int]
abbrev l_are_points_roads : Var l_are_points_T (List (Int × Int)) := .vz
abbrev l_are_points_actual : Var l_are_points_T (List (Int × Int)) := .vs .vz
abbrev l_are_points_many : Var l_are_points_T Int := .vs (.vs .vz)
abbrev l_are_points_k : Var l_are_points_T Int := .vs (.vs (.vs .vz))
abbrev l_are_points_G (K : Fr) (C : Nat → Addr) (v0 v1 v2 : V) : RTs K l_are_points_T := ((RT.dat K (List (Int × Int)), ((RT.dat K (List (Int × Int)), ((RT.dat K Int, ((RT.dat K Int, ()) : RT K Int × RTs K [])) : RT K Int × RTs K [Int])) : RT K (List (Int × Int)) × RTs K [Int, Int])) : RT K (List (Int × Int)) × RTs K [List (Int × Int), Int, Int])
abbrev l_are_points_Gr (K : Fr) (C : Nat → Addr) (v0 v1 v2 : V) : RTs K l_are_points_T := ((RT.dead K (List (Int × Int)), ((RT.dead K (List (Int × Int)), ((RT.dead K Int, ((RT.dead K Int, ()) : RT K Int × RTs K [])) : RT K Int × RTs K [Int])) : RT K (List (Int × Int)) × RTs K [Int, Int])) : RT K (List (Int × Int)) × RTs K [List (Int × Int), Int, Int])
abbrev l_are_points_R (K : Fr) (C : Nat → Addr) : RT K Bool := RT.dat K Bool
noncomputable def l_are_points_m : MS l_are_points_T Bool := (sSeq (sIf (mOr (m1 bnot (m1 (isT true) (mV l_are_points_actual))) (m2 ine (m1 ilen (mV l_are_points_actual)) (mV l_are_points_many))) (sRet (mC false)) sSkip)
  (sSeq (sFor (m1 rng (mV l_are_points_many)) (fun y s => l_are_points_k.set (some y) s) (sIf (m1 bnot (mCall (.v (.v .nil)) (bodyF (ps := l_is_point_ps) (ls := l_is_point_ls) l_is_point_m) (aV (mV l_are_points_roads) (aV (m2 idx (mV l_are_points_actual) (mV l_are_points_k)) aNil)))) (sRet (mC false)) sSkip))
  (sRet (mC true))))
noncomputable abbrev l_are_points_fs (K : Fr) (C : Nat → Addr) : Fs K := { ps := l_are_points_ps, Γp := (((RT.dat K (List (Int × Int)), ((RT.dat K (List (Int × Int)), ((RT.dat K Int, ()) : RT K Int × RTs K [])) : RT K (List (Int × Int)) × RTs K [Int])) : RT K (List (Int × Int)) × RTs K [List (Int × Int), Int]) : RTs K l_are_points_ps), Γo := (((RT.dead K (List (Int × Int)), ((RT.dead K (List (Int × Int)), ((RT.dead K Int, ()) : RT K Int × RTs K [])) : RT K (List (Int × Int)) × RTs K [Int])) : RT K (List (Int × Int)) × RTs K [List (Int × Int), Int]) : RTs K l_are_points_ps), ρ := Bool, R := l_are_points_R K C, f := (bodyF (ps := l_are_points_ps) (ls := l_are_points_ls) l_are_points_m) }
theorem l_are_points_sc : FnScope ["roads", "actual", "many", "k"] ["roads", "actual", "many"] (defScope (topS 30)) := ⟨rfl, rfl, rfl, by decide +kernel, rfl, by decide +kernel, by decide +kernel⟩
theorem l_are_points_ok {fa : Addr} {fd : FuncData} (F : Fun K "_law_are_points" "_law_are_points" (topS 30) fa fd) (TC0 : TC K (C 0)) (RU : RuA K mg (clsR C)) {a_l_is_point : Addr} {d_l_is_point : FuncData} (G_l_is_point : FnOk Pr w K mg base CX0 2 a_l_is_point d_l_is_point ["roads", "actual"] (spF (l_is_point_fs K C))) (b_l_is_point : Binds K d_l_is_point ["roads", "actual"] []) (g_l_is_point : mg "_law_is_point" = some (.ref a_l_is_point)) (k_l_is_point : PySem.W.keepIn K (.ref a_l_is_point) = true) (z_range : mg "range" = none) (z_isinstance : mg "isinstance" = none) (z_list : mg "list" = none) (z_len : mg "len" = none) : FnOk Pr w K mg base CX0 3 fa fd ["roads", "actual", "many"] (spF (l_are_points_fs K C)) := by
  refine fs_ok (k := 2) F l_are_points_sc (ps := l_are_points_ps) (ls := l_are_points_ls) (m := l_are_points_m) rfl rfl fun cdv A outer s H vs E hl hr => ?_
  obtain ⟨v0, v1, v2, rfl⟩ := len3 hl
  have hu : (A.deeper (PyProof.Rows.envOfC "_law_are_points" (defScope (topS 30)) s.heap.objs.size fa cdv)).units + 65 < cLine := by have := hr.un; omega
  refine ⟨l_are_points_G K C v0 v1 v2, l_are_points_Gr K C v0 v1 v2, l_are_points_G K C v0 v1 v2, ⟨fun _ _ _ _ _ _ h => h, fun _ _ _ _ _ _ h => h, fun _ _ _ _ _ _ h => h, trivial⟩, ⟨fun _ _ _ _ _ _ _ _ => trivial, fun _ _ _ _ _ _ _ _ => trivial, fun _ _ _ _ _ _ _ _ => trivial, trivial⟩, ?_⟩
  exact (.cons (Γ1 := l_are_points_G _ C v0 v1 v2)
    (.ite (.ofW (.or (.not (.val (.isinst (T := "list") (t := "list") (T' := "list") (r := true) ty_lst (by decide +kernel) (by rfl) z_isinstance (by rfl) z_list (by decide +kernel) (.name (x := l_are_points_actual) (pv 1) rfl rfl)))) (.or1 (.ofC (.ne (.len (by rfl) z_len (.name (x := l_are_points_actual) (pv 1) rfl rfl)) (.name (x := l_are_points_many) (pv 2) rfl rfl) hu))))) (.one (.ret .bl ⟨.inr rfl, ⟨.inr rfl, ⟨.inr rfl, ⟨.inr rfl, trivial⟩⟩⟩⟩)) XSs.nil)
  (.cons (Γ1 := l_are_points_G _ C v0 v1 v2)
    (.for_ PassesOwn.never rfl (.range1 (by rfl) z_range (.name (x := l_are_points_many) (pv 2) rfl rfl)) ⟨.inl rfl, ⟨.inl rfl, ⟨.inl rfl, ⟨.inl rfl, trivial⟩⟩⟩⟩ (.name (x := l_are_points_k) rfl l_are_points_sc.nd rfl (.inl rfl)) (.one (.ite (.not (.val (.call (.v (.v .nil)) G_l_is_point (hr.mono (by decide)) (by rfl) g_l_is_point k_l_is_point b_l_is_point (.v rfl (.name (x := l_are_points_roads) (pv 0) rfl rfl) (.v rfl (.idx (.name (x := l_are_points_actual) (pv 1) rfl rfl) (.name (x := l_are_points_k) (pv 3) rfl rfl)) XA.nil)) (om := trivial)))) (.one (.ret .bl ⟨.inr rfl, ⟨.inr rfl, ⟨.inr rfl, ⟨.inr rfl, trivial⟩⟩⟩⟩)) XSs.nil)))
  (.one (.ret .bl ⟨.inr rfl, ⟨.inr rfl, ⟨.inr rfl, ⟨.inr rfl, trivial⟩⟩⟩⟩))))
/-! ### Tree.__init__ -/
abbrev T_init_N : List Str := ["self", "roads", "road", "parent", "length"]
abbrev T_init_ps : List Type := [Option TreeD, List (Int × Int)]
abbrev T_init_ls : List Type := [(Int × Int), Int, Int]
abbrev T_init_T : List Type := [Option TreeD, List (Int × Int), (Int × Int), Int, Int]
abbrev T_init_self : Var T_init_T (Option TreeD) := .vz
abbrev T_init_roads : Var T_init_T (List (Int × Int)) := .vs .vz
abbrev T_init_road : Var T_init_T (Int × Int) := .vs (.vs .vz)
abbrev T_init_parent : Var T_init_T Int := .vs (.vs (.vs .vz))
abbrev T_init_length : Var T_init_T Int := .vs (.vs (.vs (.vs .vz)))
abbrev T_init_G (K : Fr) (C : Nat → Addr) (v0 v1 : V) : RTs K T_init_T := ((RT.at v0 (RT.tm K (C 0)), ((RT.dat K (List (Int × Int)), ((RT.dat K (Int × Int), ((RT.dat K Int, ((RT.dat K Int, ()) : RT K Int × RTs K [])) : RT K Int × RTs K [Int])) : RT K (Int × Int) × RTs K [Int, Int])) : RT K (List (Int × Int)) × RTs K [(Int × Int), Int, Int])) : RT K (Option TreeD) × RTs K [List (Int × Int), (Int × Int), Int, Int])
abbrev T_init_Gr (K : Fr) (C : Nat → Addr) (v0 v1 : V) : RTs K T_init_T := ((RT.at v0 (RT.tm K (C 0)), ((RT.dead K (List (Int × Int)), ((RT.dead K (Int × Int), ((RT.dead K Int, ((RT.dead K Int, ()) : RT K Int × RTs K [])) : RT K Int × RTs K [Int])) : RT K (Int × Int) × RTs K [Int, Int])) : RT K (List (Int × Int)) × RTs K [(Int × Int), Int, Int])) : RT K (Option TreeD) × RTs K [List (Int × Int), (Int × Int), Int, Int])
abbrev T_init_R (K : Fr) (C : Nat → Addr) : RT K Unit := RT.dat K Unit
noncomputable def T_init_m : MS T_init_T Unit := (sSeq (sIf (m1 bnot (m1 (isT true) (mV T_init_roads))) sFail sSkip)
  (sSeq (sT0 T_init_self 0 1 0) (sFor (mV T_init_roads) (fun y s => T_init_road.set (some y) s) (sSeq (sIf (m1 bnot (mCall (.v .nil) (bodyF (ps := is_pair_ps) (ls := is_pair_ls) is_pair_m) (aV (mV T_init_road) aNil))) sFail sSkip)
  (sSeq (sAsgG (fun z s => T_init_length.set (some z.2) (T_init_parent.set (some z.1) s)) (mV T_init_road))
  (sSeq (sIf (mOr (m1 bnot (chn ile ilt (mC (0 : Int)) (mV T_init_parent) (mLenP T_init_self))) (m2 ilt (mV T_init_length) (mC (1 : Int)))) sFail sSkip)
  (sTA T_init_self T_init_parent T_init_length)))))))
noncomputable abbrev T_init_fs (K : Fr) (C : Nat → Addr) : Fs K := { ps := T_init_ps, Γp := (((RT.tm K (C 0), ((RT.dat K (List (Int × Int)), ()) : RT K (List (Int × Int)) × RTs K [])) : RT K (Option TreeD) × RTs K [List (Int × Int)]) : RTs K T_init_ps), Γo := (((RT.tm K (C 0), ((RT.dead K (List (Int × Int)), ()) : RT K (List (Int × Int)) × RTs K [])) : RT K (Option TreeD) × RTs K [List (Int × Int)]) : RTs K T_init_ps), ρ := Unit, R := T_init_R K C, f := (bodyN (ps := T_init_ps) (ls := T_init_ls) T_init_m) }
theorem T_init_sc : FnScope ["self", "roads", "road", "parent", "length"] ["self", "roads"] (defScope (inClass (topS 18) 0)) := ⟨rfl, rfl, rfl, by decide +kernel, rfl, by decide +kernel, by decide +kernel⟩
theorem T_init_ok {fa : Addr} {fd : FuncData} (F : Fun K "__init__" "Tree.__init__" (inClass (topS 18) 0) fa fd) (TC0 : TC K (C 0)) (RU : RuA K mg (clsR C)) {a_is_pair : Addr} {d_is_pair : FuncData} (G_is_pair : FnOk Pr w K mg base CX0 2 a_is_pair d_is_pair ["value"] (spF (is_pair_fs K C))) (b_is_pair : Binds K d_is_pair ["value"] []) (g_is_pair : mg "is_pair" = some (.ref a_is_pair)) (k_is_pair : PySem.W.keepIn K (.ref a_is_pair) = true) (z_isinstance : mg "isinstance" = none) (z_list : mg "list" = none) (z_len : mg "len" = none) : FnOk Pr w K mg base CX0 3 fa fd ["self", "roads"] (spF (T_init_fs K C)) := by
  refine fs_okN (k := 2) F T_init_sc (ps := T_init_ps) (ls := T_init_ls) (m := T_init_m) rfl rfl fun cdv A outer s H vs E hl hr => ?_
  obtain ⟨v0, v1, rfl⟩ := len2 hl
  have hu : (A.deeper (PyProof.Rows.envOfC "Tree.__init__" (defScope (inClass (topS 18) 0)) s.heap.objs.size fa cdv)).units + 65 < cLine := by have := hr.un; omega
  refine ⟨T_init_G K C v0 v1, T_init_Gr K C v0 v1, ⟨fun v G H x A e h => ⟨(Option.some.inj e).symm, h⟩, fun _ _ _ _ _ _ h => h, trivial⟩, ⟨fun v u G H x A e h => by cases (Option.some.inj e); cases h.1; exact h.2, fun _ _ _ _ _ _ _ _ => trivial, trivial⟩, ?_⟩
  exact XSs.to (Γ1 := T_init_G K C v0 v1) (.cons (Γ1 := T_init_G _ C v0 v1)
    (.ite (.not (.val (.isinst (T := "list") (t := "list") (T' := "list") (r := true) ty_lst (by decide +kernel) (by rfl) z_isinstance (by rfl) z_list (by decide +kernel) (.name (x := T_init_roads) (pv 1) rfl rfl)))) XSs.never XSs.nil)
  (.tree0 (x := T_init_self) TC0 (fun _ => pv 0) .at (.one (.for_ PassesOwn.never rfl (.list (.name (x := T_init_roads) (pv 1) rfl rfl)) ⟨.inl rfl, ⟨.inl rfl, ⟨.inl rfl, ⟨.inl rfl, ⟨.inl rfl, trivial⟩⟩⟩⟩⟩ (.name (x := T_init_road) rfl T_init_sc.nd rfl (.inl rfl)) (.cons (Γ1 := T_init_G _ C v0 v1)
    (.ite (.not (.val (.call (.v .nil) G_is_pair (hr.mono (by decide)) (by rfl) g_is_pair k_is_pair b_is_pair (.v rfl (.name (x := T_init_road) (pv 2) rfl rfl) XA.nil) (om := trivial)))) XSs.never XSs.nil)
  (.cons (Γ1 := T_init_G _ C v0 v1)
    (.asgG rfl (.name (x := T_init_road) (pv 2) rfl rfl) (.pair (x := T_init_parent) (y := T_init_length) rfl T_init_sc.nd rfl (.inl rfl) rfl (.inl rfl) (by decide)))
  (.cons (Γ1 := T_init_G _ C v0 v1)
    (.ite (.ofW (.or (.not (.chn ci_le ci_lt .int (.name (x := T_init_parent) (pv 3) rfl rfl) (.lenP TC0 (pv 0) .at (by rfl) z_len))) (.or1 (.ofC (.lt (.name (x := T_init_length) (pv 4) rfl rfl) .int))))) XSs.never XSs.nil)
  (by refine XSs.treeAdd (x := T_init_self) (y := T_init_parent) (z := T_init_length) (C := C 0) ?_ ?_ ?_ ?_ ?_ ?_ ?_; exact TC0; exact fun _ => pv 0; exact fun _ => pv 3; exact fun _ => pv 4; exact .at; exact rfl; exact rfl)))))))) ⟨.inl rfl, ⟨.inr rfl, ⟨.inr rfl, ⟨.inr rfl, ⟨.inr rfl, trivial⟩⟩⟩⟩⟩
/-! ### Tree.__contains__ -/
abbrev T_contains_N : List Str := ["self", "point", "node", "up"]
abbrev T_contains_ps : List Type := [TreeD, (Int × Int)]
abbrev T_contains_ls : List Type := [Int, Int]
abbrev T_contains_T : List Type := [TreeD, (Int × Int), Int, Int]
abbrev T_contains_self : Var T_contains_T TreeD := .vz
abbrev T_contains_point : Var T_contains_T (Int × Int) := .vs .vz
abbrev T_contains_node : Var T_contains_T Int := .vs (.vs .vz)
abbrev T_contains_up : Var T_contains_T Int := .vs (.vs (.vs .vz))
abbrev T_contains_G (K : Fr) (C : Nat → Addr) (v0 v1 : V) : RTs K T_contains_T := ((RT.tree K (C 0), ((RT.dat K (Int × Int), ((RT.dat K Int, ((RT.dat K Int, ()) : RT K Int × RTs K [])) : RT K Int × RTs K [Int])) : RT K (Int × Int) × RTs K [Int, Int])) : RT K TreeD × RTs K [(Int × Int), Int, Int])
abbrev T_contains_Gr (K : Fr) (C : Nat → Addr) (v0 v1 : V) : RTs K T_contains_T := ((RT.dead K TreeD, ((RT.dead K (Int × Int), ((RT.dead K Int, ((RT.dead K Int, ()) : RT K Int × RTs K [])) : RT K Int × RTs K [Int])) : RT K (Int × Int) × RTs K [Int, Int])) : RT K TreeD × RTs K [(Int × Int), Int, Int])
abbrev T_contains_R (K : Fr) (C : Nat → Addr) : RT K Bool := RT.dat K Bool
noncomputable def T_contains_m : MS T_contains_T Bool := (sSeq (sIf (m1 bnot (mCall (.v .nil) (bodyF (ps := is_pair_ps) (ls := is_pair_ls) is_pair_m) (aV (mV T_contains_point) aNil))) (sRet (mC false)) sSkip)
  (sSeq (sAsgG (fun z s => T_contains_up.set (some z.2) (T_contains_node.set (some z.1) s)) (mV T_contains_point))
  (sRet (mAnd (chn ile ilt (mC (0 : Int)) (mV T_contains_node) (m1 ilen (m1 fPs (mV T_contains_self)))) (chn ile ilt (mC (0 : Int)) (mV T_contains_up) (m2 idx (m1 fLs (mV T_contains_self)) (mV T_contains_node)))))))
noncomputable abbrev T_contains_fs (K : Fr) (C : Nat → Addr) : Fs K := { ps := T_contains_ps, Γp := (((RT.tree K (C 0), ((RT.dat K (Int × Int), ()) : RT K (Int × Int) × RTs K [])) : RT K TreeD × RTs K [(Int × Int)]) : RTs K T_contains_ps), Γo := (((RT.dead K TreeD, ((RT.dead K (Int × Int), ()) : RT K (Int × Int) × RTs K [])) : RT K TreeD × RTs K [(Int × Int)]) : RTs K T_contains_ps), ρ := Bool, R := T_contains_R K C, f := (bodyF (ps := T_contains_ps) (ls := T_contains_ls) T_contains_m) }
theorem T_contains_sc : FnScope ["self", "point", "node", "up"] ["self", "point"] (defScope (inClass (topS 18) 4)) := ⟨rfl, rfl, rfl, by decide +kernel, rfl, by decide +kernel, by decide +kernel⟩
theorem T_contains_ok {fa : Addr} {fd : FuncData} (F : Fun K "__contains__" "Tree.__contains__" (inClass (topS 18) 4) fa fd) (TC0 : TC K (C 0)) (RU : RuA K mg (clsR C)) {a_is_pair : Addr} {d_is_pair : FuncData} (G_is_pair : FnOk Pr w K mg base CX0 2 a_is_pair d_is_pair ["value"] (spF (is_pair_fs K C))) (b_is_pair : Binds K d_is_pair ["value"] []) (g_is_pair : mg "is_pair" = some (.ref a_is_pair)) (k_is_pair : PySem.W.keepIn K (.ref a_is_pair) = true) (z_len : mg "len" = none) : FnOk Pr w K mg base CX0 3 fa fd ["self", "point"] (spF (T_contains_fs K C)) := by
  refine fs_ok (k := 2) F T_contains_sc (ps := T_contains_ps) (ls := T_contains_ls) (m := T_contains_m) rfl rfl fun cdv A outer s H vs E hl hr => ?_
  obtain ⟨v0, v1, rfl⟩ := len2 hl
  have hu : (A.deeper (PyProof.Rows.envOfC "Tree.__contains__" (defScope (inClass (topS 18) 4)) s.heap.objs.size fa cdv)).units + 65 < cLine := by have := hr.un; omega
  refine ⟨T_contains_G K C v0 v1, T_contains_Gr K C v0 v1, T_contains_G K C v0 v1, ⟨fun _ _ _ _ _ _ h => h, fun _ _ _ _ _ _ h => h, trivial⟩, ⟨fun _ _ _ _ _ _ _ _ => trivial, fun _ _ _ _ _ _ _ _ => trivial, trivial⟩, ?_⟩
  exact (.cons (Γ1 := T_contains_G _ C v0 v1)
    (.ite (.not (.val (.call (.v .nil) G_is_pair (hr.mono (by decide)) (by rfl) g_is_pair k_is_pair b_is_pair (.v rfl (.name (x := T_contains_point) (pv 1) rfl rfl) XA.nil) (om := trivial)))) (.one (.ret .bl ⟨.inr rfl, ⟨.inr rfl, ⟨.inr rfl, ⟨.inr rfl, trivial⟩⟩⟩⟩)) XSs.nil)
  (.cons (Γ1 := T_contains_G _ C v0 v1)
    (.asgG rfl (.name (x := T_contains_point) (pv 1) rfl rfl) (.pair (x := T_contains_node) (y := T_contains_up) rfl T_contains_sc.nd rfl (.inl rfl) rfl (.inl rfl) (by decide)))
  (.one (.ret (.and (.chn ci_le ci_lt .int (.name (x := T_contains_node) (pv 2) rfl rfl) (.len (by rfl) z_len (.fPs TC0 (.name (x := T_contains_self) (pv 0) rfl rfl)))) (.one (.chn ci_le ci_lt .int (.name (x := T_contains_up) (pv 3) rfl rfl) (.idx (.fLs TC0 (.name (x := T_contains_self) (pv 0) rfl rfl)) (.name (x := T_contains_node) (pv 2) rfl rfl))))) ⟨.inr rfl, ⟨.inr rfl, ⟨.inr rfl, ⟨.inr rfl, trivial⟩⟩⟩⟩))))
/-! ### _law_is_pair -/
abbrev l_is_pair_N : List Str := ["roads", "actual", "many"]
abbrev l_is_pair_ps : List Type := [List (Int × Int), (List (Int × Int) × Int), Int]
abbrev l_is_pair_ls : List Type := []
abbrev l_is_pair_T : List Type := [List (Int × Int), (List (Int × Int) × Int), Int]
abbrev l_is_pair_roads : Var l_is_pair_T (List (Int × Int)) := .vz
abbrev l_is_pair_actual : Var l_is_pair_T (List (Int × Int) × Int) := .vs .vz
abbrev l_is_pair_many : Var l_is_pair_T Int := .vs (.vs .vz)
abbrev l_is_pair_G (K : Fr) (C : Nat → Addr) (v0 v1 v2 : V) : RTs K l_is_pair_T := ((RT.dat K (List (Int × Int)), ((RT.dat K (List (Int × Int) × Int), ((RT.dat K Int, ()) : RT K Int × RTs K [])) : RT K (List (Int × Int) × Int) × RTs K [Int])) : RT K (List (Int × Int)) × RTs K [(List (Int × Int) × Int), Int])
abbrev l_is_pair_Gr (K : Fr) (C : Nat → Addr) (v0 v1 v2 : V) : RTs K l_is_pair_T := ((RT.dead K (List (Int × Int)), ((RT.dead K (List (Int × Int) × Int), ((RT.dead K Int, ()) : RT K Int × RTs K [])) : RT K (List (Int × Int) × Int) × RTs K [Int])) : RT K (List (Int × Int)) × RTs K [(List (Int × Int) × Int), Int])
abbrev l_is_pair_R (K : Fr) (C : Nat → Addr) : RT K Bool := RT.dat K Bool
noncomputable def l_is_pair_m : MS l_is_pair_T Bool := (sSeq (sIf (mOr (m1 bnot (m1 (isT true) (mV l_is_pair_actual))) (m2 ine (m1 lenP (mV l_is_pair_actual)) (mC (2 : Int)))) (sRet (mC false)) sSkip)
  (sRet (mAnd (mCall (.v (.v (.v .nil))) (bodyF (ps := l_are_points_ps) (ls := l_are_points_ls) l_are_points_m) (aV (mV l_is_pair_roads) (aV (m1 fst' (mV l_is_pair_actual)) (aV (mV l_is_pair_many) aNil)))) (mCall (.v .nil) (bodyF (ps := l_is_integer_ps) (ls := l_is_integer_ls) l_is_integer_m) (aV (m1 snd' (mV l_is_pair_actual)) aNil)))))
noncomputable abbrev l_is_pair_fs (K : Fr) (C : Nat → Addr) : Fs K := { ps := l_is_pair_ps, Γp := (((RT.dat K (List (Int × Int)), ((RT.dat K (List (Int × Int) × Int), ((RT.dat K Int, ()) : RT K Int × RTs K [])) : RT K (List (Int × Int) × Int) × RTs K [Int])) : RT K (List (Int × Int)) × RTs K [(List (Int × Int) × Int), Int]) : RTs K l_is_pair_ps), Γo := (((RT.dead K (List (Int × Int)), ((RT.dead K (List (Int × Int) × Int), ((RT.dead K Int, ()) : RT K Int × RTs K [])) : RT K (List (Int × Int) × Int) × RTs K [Int])) : RT K (List (Int × Int)) × RTs K [(List (Int × Int) × Int), Int]) : RTs K l_is_pair_ps), ρ := Bool, R := l_is_pair_R K C, f := (bodyF (ps := l_is_pair_ps) (ls := l_is_pair_ls) l_is_pair_m) }
theorem l_is_pair_sc : FnScope ["roads", "actual", "many"] ["roads", "actual", "many"] (defScope (topS 32)) := ⟨rfl, rfl, rfl, by decide +kernel, rfl, by decide +kernel, by decide +kernel⟩
theorem l_is_pair_ok {fa : Addr} {fd : FuncData} (F : Fun K "_law_is_pair" "_law_is_pair" (topS 32) fa fd) (TC0 : TC K (C 0)) (RU : RuA K mg (clsR C)) {a_l_are_points : Addr} {d_l_are_points : FuncData} (G_l_are_points : FnOk Pr w K mg base CX0 3 a_l_are_points d_l_are_points ["roads", "actual", "many"] (spF (l_are_points_fs K C))) (b_l_are_points : Binds K d_l_are_points ["roads", "actual", "many"] []) (g_l_are_points : mg "_law_are_points" = some (.ref a_l_are_points)) (k_l_are_points : PySem.W.keepIn K (.ref a_l_are_points) = true) {a_l_is_integer : Addr} {d_l_is_integer : FuncData} (G_l_is_integer : FnOk Pr w K mg base CX0 1 a_l_is_integer d_l_is_integer ["actual"] (spF (l_is_integer_fs K C))) (b_l_is_integer : Binds K d_l_is_integer ["actual"] []) (g_l_is_integer : mg "_law_is_integer" = some (.ref a_l_is_integer)) (k_l_is_integer : PySem.W.keepIn K (.ref a_l_is_integer) = true) (z_isinstance : mg "isinstance" = none) (z_tuple : mg "tuple" = none) (z_len : mg "len" = none) : FnOk Pr w K mg base CX0 4 fa fd ["roads", "actual", "many"] (spF (l_is_pair_fs K C)) := by
  refine fs_ok (k := 3) F l_is_pair_sc (ps := l_is_pair_ps) (ls := l_is_pair_ls) (m := l_is_pair_m) rfl rfl fun cdv A outer s H vs E hl hr => ?_
  obtain ⟨v0, v1, v2, rfl⟩ := len3 hl
  have hu : (A.deeper (PyProof.Rows.envOfC "_law_is_pair" (defScope (topS 32)) s.heap.objs.size fa cdv)).units + 65 < cLine := by have := hr.un; omega
  refine ⟨l_is_pair_G K C v0 v1 v2, l_is_pair_Gr K C v0 v1 v2, l_is_pair_G K C v0 v1 v2, ⟨fun _ _ _ _ _ _ h => h, fun _ _ _ _ _ _ h => h, fun _ _ _ _ _ _ h => h, trivial⟩, ⟨fun _ _ _ _ _ _ _ _ => trivial, fun _ _ _ _ _ _ _ _ => trivial, fun _ _ _ _ _ _ _ _ => trivial, trivial⟩, ?_⟩
  exact (.cons (Γ1 := l_is_pair_G _ C v0 v1 v2)
    (.ite (.ofW (.or (.not (.val (.isinst (T := "tuple") (t := "tuple") (T' := "tuple") (r := true) ty_tup2 (by decide +kernel) (by rfl) z_isinstance (by rfl) z_tuple (by decide +kernel) (.name (x := l_is_pair_actual) (pv 1) rfl rfl)))) (.or1 (.ofC (.ne (.len2 (by rfl) z_len (.name (x := l_is_pair_actual) (pv 1) rfl rfl)) .int hu))))) (.one (.ret .bl ⟨.inr rfl, ⟨.inr rfl, ⟨.inr rfl, trivial⟩⟩⟩)) XSs.nil)
  (.one (.ret (.and (.call (.v (.v (.v .nil))) G_l_are_points (hr.mono (by decide)) (by rfl) g_l_are_points k_l_are_points b_l_are_points (.v rfl (.name (x := l_is_pair_roads) (pv 0) rfl rfl) (.v rfl (.fst (.name (x := l_is_pair_actual) (pv 1) rfl rfl)) (.v rfl (.name (x := l_is_pair_many) (pv 2) rfl rfl) XA.nil))) (om := trivial)) (.one (.call (.v .nil) G_l_is_integer (hr.mono (by decide)) (by rfl) g_l_is_integer k_l_is_integer b_l_is_integer (.v rfl (.snd (.name (x := l_is_pair_actual) (pv 1) rfl rfl)) XA.nil) (om := trivial)))) ⟨.inr rfl, ⟨.inr rfl, ⟨.inr rfl, trivial⟩⟩⟩)))
/-! ### Tree.height -/
abbrev T_height_N : List Str := ["self", "point"]
abbrev T_height_ps : List Type := [TreeD, (Int × Int)]
abbrev T_height_ls : List Type := []
abbrev T_height_T : List Type := [TreeD, (Int × Int)]
abbrev T_height_self : Var T_height_T TreeD := .vz
abbrev T_height_point : Var T_height_T (Int × Int) := .vs .vz
abbrev T_height_G (K : Fr) (C : Nat → Addr) (v0 v1 : V) : RTs K T_height_T := ((RT.tree K (C 0), ((RT.dat K (Int × Int), ()) : RT K (Int × Int) × RTs K [])) : RT K TreeD × RTs K [(Int × Int)])
abbrev T_height_Gr (K : Fr) (C : Nat → Addr) (v0 v1 : V) : RTs K T_height_T := ((RT.dead K TreeD, ((RT.dead K (Int × Int), ()) : RT K (Int × Int) × RTs K [])) : RT K TreeD × RTs K [(Int × Int)])
abbrev T_height_R (K : Fr) (C : Nat → Addr) : RT K Int := RT.dat K Int
noncomputable def T_height_m : MS T_height_T Int := (sSeq (sIf (mIn true (bodyF (ps := T_contains_ps) (ls := T_contains_ls) T_contains_m) (mV T_height_point) (mV T_height_self)) sFail sSkip)
  (sRet (m2 isub (m2 idx (m1 fHs (mV T_height_self)) (m1 fst' (mV T_height_point))) (m1 snd' (mV T_height_point)))))
noncomputable abbrev T_height_fs (K : Fr) (C : Nat → Addr) : Fs K := { ps := T_height_ps, Γp := (((RT.tree K (C 0), ((RT.dat K (Int × Int), ()) : RT K (Int × Int) × RTs K [])) : RT K TreeD × RTs K [(Int × Int)]) : RTs K T_height_ps), Γo := (((RT.dead K TreeD, ((RT.dead K (Int × Int), ()) : RT K (Int × Int) × RTs K [])) : RT K TreeD × RTs K [(Int × Int)]) : RTs K T_height_ps), ρ := Int, R := T_height_R K C, f := (bodyF (ps := T_height_ps) (ls := T_height_ls) T_height_m) }
theorem T_height_sc : FnScope ["self", "point"] ["self", "point"] (defScope (inClass (topS 18) 5)) := ⟨rfl, rfl, rfl, by decide +kernel, rfl, by decide +kernel, by decide +kernel⟩
theorem T_height_ok {fa : Addr} {fd : FuncData} (F : Fun K "height" "Tree.height" (inClass (topS 18) 5) fa fd) (TC0 : TC K (C 0)) (RU : RuA K mg (clsR C)) {a_T_contains : Addr} {d_T_contains : FuncData} (G_T_contains : FnOk Pr w K mg base CX0 3 a_T_contains d_T_contains ["self", "point"] (spF (T_contains_fs K C))) (b_T_contains : Binds K d_T_contains ["self", "point"] []) (h_T_contains : Meth K (C 0) "__contains__" a_T_contains) : FnOk Pr w K mg base CX0 4 fa fd ["self", "point"] (spF (T_height_fs K C)) := by
  refine fs_ok (k := 3) F T_height_sc (ps := T_height_ps) (ls := T_height_ls) (m := T_height_m) rfl rfl fun cdv A outer s H vs E hl hr => ?_
  obtain ⟨v0, v1, rfl⟩ := len2 hl
  have hu : (A.deeper (PyProof.Rows.envOfC "Tree.height" (defScope (inClass (topS 18) 5)) s.heap.objs.size fa cdv)).units + 65 < cLine := by have := hr.un; omega
  refine ⟨T_height_G K C v0 v1, T_height_Gr K C v0 v1, T_height_G K C v0 v1, ⟨fun _ _ _ _ _ _ h => h, fun _ _ _ _ _ _ h => h, trivial⟩, ⟨fun _ _ _ _ _ _ _ _ => trivial, fun _ _ _ _ _ _ _ _ => trivial, trivial⟩, ?_⟩
  exact (.cons (Γ1 := T_height_G _ C v0 v1)
    (.ite (.ofC (.notInO G_T_contains (hr.mono (by decide)) b_T_contains h_T_contains.at_ h_T_contains.fn rfl rfl (tree_ins (by decide +kernel) (by decide +kernel) (by decide +kernel)) (.name (x := T_height_point) (pv 1) rfl rfl) (.name (x := T_height_self) (pv 0) rfl rfl))) XSs.never XSs.nil)
  (.one (.ret (.sub (.idx (.fHs TC0 (.name (x := T_height_self) (pv 0) rfl rfl)) (.fst (.name (x := T_height_point) (pv 1) rfl rfl))) (.snd (.name (x := T_height_point) (pv 1) rfl rfl))) ⟨.inr rfl, ⟨.inr rfl, trivial⟩⟩)))
/-! ### _law_led -/
abbrev l_led_N : List Str := ["roads", "kind", "crew", "call", "actual", "ways", "gone", "i", "due", "point"]
abbrev l_led_ps : List Type := [List (Int × Int), Int, List (Int × Int), (Int × Int), (List (Int × Int) × Int)]
abbrev l_led_ls : List Type := [List Int, List Int, Int, Int, (Int × Int)]
abbrev l_led_T : List Type := [List (Int × Int), Int, List (Int × Int), (Int × Int), (List (Int × Int) × Int), List Int, List Int, Int, Int, (Int × Int)]
abbrev l_led_roads : Var l_led_T (List (Int × Int)) := .vz
abbrev l_led_kind : Var l_led_T Int := .vs .vz
abbrev l_led_crew : Var l_led_T (List (Int × Int)) := .vs (.vs .vz)
abbrev l_led_call : Var l_led_T (Int × Int) := .vs (.vs (.vs .vz))
abbrev l_led_actual : Var l_led_T (List (Int × Int) × Int) := .vs (.vs (.vs (.vs .vz)))
abbrev l_led_ways : Var l_led_T (List Int) := .vs (.vs (.vs (.vs (.vs .vz))))
abbrev l_led_gone : Var l_led_T (List Int) := .vs (.vs (.vs (.vs (.vs (.vs .vz)))))
abbrev l_led_i : Var l_led_T Int := .vs (.vs (.vs (.vs (.vs (.vs (.vs .vz))))))
abbrev l_led_due : Var l_led_T Int := .vs (.vs (.vs (.vs (.vs (.vs (.vs (.vs .vz)))))))
abbrev l_led_point : Var l_led_T (Int × Int) := .vs (.vs (.vs (.vs (.vs (.vs (.vs (.vs (.vs .vz))))))))
abbrev l_led_G (K : Fr) (C : Nat → Addr) (v0 v1 v2 v3 v4 : V) : RTs K l_led_T := ((RT.dat K (List (Int × Int)), ((RT.dat K Int, ((RT.dat K (List (Int × Int)), ((RT.dat K (Int × Int), ((RT.dat K (List (Int × Int) × Int), ((RT.dat K (List Int), ((RT.dat K (List Int), ((RT.dat K Int, ((RT.dat K Int, ((RT.dat K (Int × Int), ()) : RT K (Int × Int) × RTs K [])) : RT K Int × RTs K [(Int × Int)])) : RT K Int × RTs K [Int, (Int × Int)])) : RT K (List Int) × RTs K [Int, Int, (Int × Int)])) : RT K (List Int) × RTs K [List Int, Int, Int, (Int × Int)])) : RT K (List (Int × Int) × Int) × RTs K [List Int, List Int, Int, Int, (Int × Int)])) : RT K (Int × Int) × RTs K [(List (Int × Int) × Int), List Int, List Int, Int, Int, (Int × Int)])) : RT K (List (Int × Int)) × RTs K [(Int × Int), (List (Int × Int) × Int), List Int, List Int, Int, Int, (Int × Int)])) : RT K Int × RTs K [List (Int × Int), (Int × Int), (List (Int × Int) × Int), List Int, List Int, Int, Int, (Int × Int)])) : RT K (List (Int × Int)) × RTs K [Int, List (Int × Int), (Int × Int), (List (Int × Int) × Int), List Int, List Int, Int, Int, (Int × Int)])
abbrev l_led_Gr (K : Fr) (C : Nat → Addr) (v0 v1 v2 v3 v4 : V) : RTs K l_led_T := ((RT.dead K (List (Int × Int)), ((RT.dead K Int, ((RT.dead K (List (Int × Int)), ((RT.dead K (Int × Int), ((RT.dead K (List (Int × Int) × Int), ((RT.dead K (List Int), ((RT.dead K (List Int), ((RT.dead K Int, ((RT.dead K Int, ((RT.dead K (Int × Int), ()) : RT K (Int × Int) × RTs K [])) : RT K Int × RTs K [(Int × Int)])) : RT K Int × RTs K [Int, (Int × Int)])) : RT K (List Int) × RTs K [Int, Int, (Int × Int)])) : RT K (List Int) × RTs K [List Int, Int, Int, (Int × Int)])) : RT K (List (Int × Int) × Int) × RTs K [List Int, List Int, Int, Int, (Int × Int)])) : RT K (Int × Int) × RTs K [(List (Int × Int) × Int), List Int, List Int, Int, Int, (Int × Int)])) : RT K (List (Int × Int)) × RTs K [(Int × Int), (List (Int × Int) × Int), List Int, List Int, Int, Int, (Int × Int)])) : RT K Int × RTs K [List (Int × Int), (Int × Int), (List (Int × Int) × Int), List Int, List Int, Int, Int, (Int × Int)])) : RT K (List (Int × Int)) × RTs K [Int, List (Int × Int), (Int × Int), (List (Int × Int) × Int), List Int, List Int, Int, Int, (Int × Int)])
abbrev l_led_R (K : Fr) (C : Nat → Addr) : RT K Bool := RT.dat K Bool
noncomputable def l_led_m : MS l_led_T Bool := (sSeq (sIf (m1 bnot (mCall (.v (.v (.v .nil))) (bodyF (ps := l_is_pair_ps) (ls := l_is_pair_ls) l_is_pair_m) (aV (mV l_led_roads) (aV (mV l_led_actual) (aV (m1 ilen (mV l_led_crew)) aNil))))) (sRet (mC false)) sSkip)
  (sSeq (sAsg l_led_ways (mLc (mV l_led_crew) (fun y s => l_led_point.set (some y) s) (Own.one l_led_point).rs (mC true) (mCall (.v (.v (.v .nil))) (bodyF (ps := l_far_ps) (ls := l_far_ls) l_far_m) (aV (mV l_led_roads) (aV (mV l_led_point) (aV (mV l_led_call) aNil))))))
  (sSeq (sAsg l_led_gone (mLc (m1 rng (m1 ilen (mV l_led_crew))) (fun y s => l_led_i.set (some y) s) (Own.one l_led_i).rs (mC true) (mCall (.v (.v (.v .nil))) (bodyF (ps := l_far_ps) (ls := l_far_ls) l_far_m) (aV (mV l_led_roads) (aV (m2 idx (mV l_led_crew) (mV l_led_i)) (aV (m2 idx (m1 fst' (mV l_led_actual)) (mV l_led_i)) aNil))))))
  (sSeq (sIf (m2 ine (m1 snd' (mV l_led_actual)) (m1 isum (mV l_led_gone))) (sRet (mC false)) sSkip)
  (sSeq (sFor (m1 rng (m1 ilen (mV l_led_crew))) (fun y s => l_led_i.set (some y) s) (sSeq (sAsg l_led_due (mC (0 : Int)))
  (sSeq (sIf (m2 ieq (mV l_led_kind) (mC (0 : Int))) (sAsg l_led_due (mCall (.v (.v (.v (.v (.v .nil))))) (bodyF (ps := l_stop_ps) (ls := l_stop_ls) l_stop_m) (aV (mV l_led_roads) (aV (mV l_led_crew) (aV (mV l_led_call) (aV (mV l_led_gone) (aV (mV l_led_i) aNil))))))) (sIf (m2 ieq (mV l_led_i) (m2 indexOf (mV l_led_ways) (m1 minL (mV l_led_ways)))) (sAsg l_led_due (m2 idx (mV l_led_ways) (mV l_led_i))) sSkip))
  (sIf (mOr (m2 ine (m2 idx (mV l_led_gone) (mV l_led_i)) (mV l_led_due)) (m2 ine (m2 iadd (mV l_led_due) (mCall (.v (.v (.v .nil))) (bodyF (ps := l_far_ps) (ls := l_far_ls) l_far_m) (aV (mV l_led_roads) (aV (m2 idx (m1 fst' (mV l_led_actual)) (mV l_led_i)) (aV (mV l_led_call) aNil))))) (m2 idx (mV l_led_ways) (mV l_led_i)))) (sRet (mC false)) sSkip))))
  (sRet (mC true)))))))
noncomputable abbrev l_led_fs (K : Fr) (C : Nat → Addr) : Fs K := { ps := l_led_ps, Γp := (((RT.dat K (List (Int × Int)), ((RT.dat K Int, ((RT.dat K (List (Int × Int)), ((RT.dat K (Int × Int), ((RT.dat K (List (Int × Int) × Int), ()) : RT K (List (Int × Int) × Int) × RTs K [])) : RT K (Int × Int) × RTs K [(List (Int × Int) × Int)])) : RT K (List (Int × Int)) × RTs K [(Int × Int), (List (Int × Int) × Int)])) : RT K Int × RTs K [List (Int × Int), (Int × Int), (List (Int × Int) × Int)])) : RT K (List (Int × Int)) × RTs K [Int, List (Int × Int), (Int × Int), (List (Int × Int) × Int)]) : RTs K l_led_ps), Γo := (((RT.dead K (List (Int × Int)), ((RT.dead K Int, ((RT.dead K (List (Int × Int)), ((RT.dead K (Int × Int), ((RT.dead K (List (Int × Int) × Int), ()) : RT K (List (Int × Int) × Int) × RTs K [])) : RT K (Int × Int) × RTs K [(List (Int × Int) × Int)])) : RT K (List (Int × Int)) × RTs K [(Int × Int), (List (Int × Int) × Int)])) : RT K Int × RTs K [List (Int × Int), (Int × Int), (List (Int × Int) × Int)])) : RT K (List (Int × Int)) × RTs K [Int, List (Int × Int), (Int × Int), (List (Int × Int) × Int)]) : RTs K l_led_ps), ρ := Bool, R := l_led_R K C, f := (bodyF (ps := l_led_ps) (ls := l_led_ls) l_led_m) }
theorem l_led_sc : FnScope ["roads", "kind", "crew", "call", "actual", "ways", "gone", "i", "due", "point"] ["roads", "kind", "crew", "call", "actual"] (defScope (topS 33)) := ⟨rfl, rfl, rfl, by decide +kernel, rfl, by decide +kernel, by decide +kernel⟩
theorem l_led_ok {fa : Addr} {fd : FuncData} (F : Fun K "_law_led" "_law_led" (topS 33) fa fd) (TC0 : TC K (C 0)) (RU : RuA K mg (clsR C)) {a_l_is_pair : Addr} {d_l_is_pair : FuncData} (G_l_is_pair : FnOk Pr w K mg base CX0 4 a_l_is_pair d_l_is_pair ["roads", "actual", "many"] (spF (l_is_pair_fs K C))) (b_l_is_pair : Binds K d_l_is_pair ["roads", "actual", "many"] []) (g_l_is_pair : mg "_law_is_pair" = some (.ref a_l_is_pair)) (k_l_is_pair : PySem.W.keepIn K (.ref a_l_is_pair) = true) {a_l_far : Addr} {d_l_far : FuncData} (G_l_far : FnOk Pr w K mg base CX0 1 a_l_far d_l_far ["roads", "one", "other"] (spF (l_far_fs K C))) (b_l_far : Binds K d_l_far ["roads", "one", "other"] []) (g_l_far : mg "_law_far" = some (.ref a_l_far)) (k_l_far : PySem.W.keepIn K (.ref a_l_far) = true) {a_l_stop : Addr} {d_l_stop : FuncData} (G_l_stop : FnOk Pr w K mg base CX0 2 a_l_stop d_l_stop ["roads", "crew", "call", "gone", "i"] (spF (l_stop_fs K C))) (b_l_stop : Binds K d_l_stop ["roads", "crew", "call", "gone", "i"] []) (g_l_stop : mg "_law_stop" = some (.ref a_l_stop)) (k_l_stop : PySem.W.keepIn K (.ref a_l_stop) = true) (z_range : mg "range" = none) (z_sum : mg "sum" = none) (z_len : mg "len" = none) (z_min : mg "min" = none) : FnOk Pr w K mg base CX0 5 fa fd ["roads", "kind", "crew", "call", "actual"] (spF (l_led_fs K C)) := by
  refine fs_ok (k := 4) F l_led_sc (ps := l_led_ps) (ls := l_led_ls) (m := l_led_m) rfl rfl fun cdv A outer s H vs E hl hr => ?_
  obtain ⟨v0, v1, v2, v3, v4, rfl⟩ := len5 hl
  have hu : (A.deeper (PyProof.Rows.envOfC "_law_led" (defScope (topS 33)) s.heap.objs.size fa cdv)).units + 65 < cLine := by have := hr.un; omega
  refine ⟨l_led_G K C v0 v1 v2 v3 v4, l_led_Gr K C v0 v1 v2 v3 v4, l_led_G K C v0 v1 v2 v3 v4, ⟨fun _ _ _ _ _ _ h => h, fun _ _ _ _ _ _ h => h, fun _ _ _ _ _ _ h => h, fun _ _ _ _ _ _ h => h, fun _ _ _ _ _ _ h => h, trivial⟩, ⟨fun _ _ _ _ _ _ _ _ => trivial, fun _ _ _ _ _ _ _ _ => trivial, fun _ _ _ _ _ _ _ _ => trivial, fun _ _ _ _ _ _ _ _ => trivial, fun _ _ _ _ _ _ _ _ => trivial, trivial⟩, ?_⟩
  exact (.cons (Γ1 := l_led_G _ C v0 v1 v2 v3 v4)
    (.ite (.not (.val (.call (.v (.v (.v .nil))) G_l_is_pair (hr.mono (by decide)) (by rfl) g_l_is_pair k_l_is_pair b_l_is_pair (.v rfl (.name (x := l_led_roads) (pv 0) rfl rfl) (.v rfl (.name (x := l_led_actual) (pv 4) rfl rfl) (.v rfl (.len (by rfl) z_len (.name (x := l_led_crew) (pv 2) rfl rfl)) XA.nil))) (om := trivial)))) (.one (.ret .bl ⟨.inr rfl, ⟨.inr rfl, ⟨.inr rfl, ⟨.inr rfl, ⟨.inr rfl, ⟨.inr rfl, ⟨.inr rfl, ⟨.inr rfl, ⟨.inr rfl, ⟨.inr rfl, trivial⟩⟩⟩⟩⟩⟩⟩⟩⟩⟩)) XSs.nil)
  (.cons (Γ1 := l_led_G _ C v0 v1 v2 v3 v4)
    (.asgLcG (z := l_led_ways) (Γb := (l_led_G _ C v0 v1 v2 v3 v4)) (own := [("point", 9)]) rfl l_led_sc.nd (blkOk_by (N := l_led_N) (sc := defScope (topS 33)) (by decide +kernel)) (Own.one l_led_point) rfl rfl (sw_true rfl rfl rfl (by decide +kernel)) (.list (.name (x := l_led_crew) (pv 2) rfl rfl)) (fixAt rfl) (fun _ _ _ => rfl) (fun _ _ _ _ _ => (.name (x := l_led_point) rfl l_led_sc.nd rfl (.inl rfl))) (fun _ _ _ _ _ => XTs.nil) (fun _ _ _ _ _ => (.call (.v (.v (.v .nil))) G_l_far (hr.mono (by decide)) (by rfl) g_l_far k_l_far b_l_far (.v rfl (.name (x := l_led_roads) (pv 0) rfl rfl) (.v rfl (.name (x := l_led_point) (pv 9) rfl rfl) (.v rfl (.name (x := l_led_call) (pv 3) rfl rfl) XA.nil))) (om := trivial))) (tr := fun t h => (XV.dat h)))
  (.cons (Γ1 := l_led_G _ C v0 v1 v2 v3 v4)
    (.asgLcG (z := l_led_gone) (Γb := (l_led_G _ C v0 v1 v2 v3 v4)) (own := [("i", 7)]) rfl l_led_sc.nd (blkOk_by (N := l_led_N) (sc := defScope (topS 33)) (by decide +kernel)) (Own.one l_led_i) rfl rfl (sw_true rfl rfl rfl (by decide +kernel)) (.range1 (by rfl) z_range (.len (by rfl) z_len (.name (x := l_led_crew) (pv 2) rfl rfl))) (fixAt rfl) (fun _ _ _ => rfl) (fun _ _ _ _ _ => (.name (x := l_led_i) rfl l_led_sc.nd rfl (.inl rfl))) (fun _ _ _ _ _ => XTs.nil) (fun _ _ _ _ _ => (.call (.v (.v (.v .nil))) G_l_far (hr.mono (by decide)) (by rfl) g_l_far k_l_far b_l_far (.v rfl (.name (x := l_led_roads) (pv 0) rfl rfl) (.v rfl (.idx (.name (x := l_led_crew) (pv 2) rfl rfl) (.name (x := l_led_i) (pv 7) rfl rfl)) (.v rfl (.idx (.fst (.name (x := l_led_actual) (pv 4) rfl rfl)) (.name (x := l_led_i) (pv 7) rfl rfl)) XA.nil))) (om := trivial))) (tr := fun t h => (XV.dat h)))
  (.cons (Γ1 := l_led_G _ C v0 v1 v2 v3 v4)
    (.ite (.ofC (.ne (.snd (.name (x := l_led_actual) (pv 4) rfl rfl)) (.sum rfl (by rfl) z_sum (.name (x := l_led_gone) (pv 6) rfl rfl)) hu)) (.one (.ret .bl ⟨.inr rfl, ⟨.inr rfl, ⟨.inr rfl, ⟨.inr rfl, ⟨.inr rfl, ⟨.inr rfl, ⟨.inr rfl, ⟨.inr rfl, ⟨.inr rfl, ⟨.inr rfl, trivial⟩⟩⟩⟩⟩⟩⟩⟩⟩⟩)) XSs.nil)
  (.cons (Γ1 := l_led_G _ C v0 v1 v2 v3 v4)
    (.for_ PassesOwn.never rfl (.range1 (by rfl) z_range (.len (by rfl) z_len (.name (x := l_led_crew) (pv 2) rfl rfl))) ⟨.inl rfl, ⟨.inl rfl, ⟨.inl rfl, ⟨.inl rfl, ⟨.inl rfl, ⟨.inl rfl, ⟨.inl rfl, ⟨.inl rfl, ⟨.inl rfl, ⟨.inl rfl, trivial⟩⟩⟩⟩⟩⟩⟩⟩⟩⟩ (.name (x := l_led_i) rfl l_led_sc.nd rfl (.inl rfl)) (.cons (Γ1 := l_led_G _ C v0 v1 v2 v3 v4)
    (.asg (x := l_led_due) .int l_led_sc.nd rfl (.inl rfl))
  (.cons (Γ1 := l_led_G _ C v0 v1 v2 v3 v4)
    (.ite (.ofC (.eq (.name (x := l_led_kind) (pv 1) rfl rfl) .int hu)) (.one (.asg (x := l_led_due) (.call (.v (.v (.v (.v (.v .nil))))) G_l_stop (hr.mono (by decide)) (by rfl) g_l_stop k_l_stop b_l_stop (.v rfl (.name (x := l_led_roads) (pv 0) rfl rfl) (.v rfl (.name (x := l_led_crew) (pv 2) rfl rfl) (.v rfl (.name (x := l_led_call) (pv 3) rfl rfl) (.v rfl (.name (x := l_led_gone) (pv 6) rfl rfl) (.v rfl (.name (x := l_led_i) (pv 7) rfl rfl) XA.nil))))) (om := trivial)) l_led_sc.nd rfl (.inl rfl))) (.one (.ite (.ofC (.eq (.name (x := l_led_i) (pv 7) rfl rfl) (.index (.name (x := l_led_ways) (pv 5) rfl rfl) (.min1 rfl (by rfl) z_min (.name (x := l_led_ways) (pv 5) rfl rfl)) hu) hu)) (.one (.asg (x := l_led_due) (.idx (.name (x := l_led_ways) (pv 5) rfl rfl) (.name (x := l_led_i) (pv 7) rfl rfl)) l_led_sc.nd rfl (.inl rfl))) XSs.nil)))
  (.one (.ite (.ofW (.or (.ofC (.ne (.idx (.name (x := l_led_gone) (pv 6) rfl rfl) (.name (x := l_led_i) (pv 7) rfl rfl)) (.name (x := l_led_due) (pv 8) rfl rfl) hu)) (.or1 (.ofC (.ne (.add (.name (x := l_led_due) (pv 8) rfl rfl) (.call (.v (.v (.v .nil))) G_l_far (hr.mono (by decide)) (by rfl) g_l_far k_l_far b_l_far (.v rfl (.name (x := l_led_roads) (pv 0) rfl rfl) (.v rfl (.idx (.fst (.name (x := l_led_actual) (pv 4) rfl rfl)) (.name (x := l_led_i) (pv 7) rfl rfl)) (.v rfl (.name (x := l_led_call) (pv 3) rfl rfl) XA.nil))) (om := trivial))) (.idx (.name (x := l_led_ways) (pv 5) rfl rfl) (.name (x := l_led_i) (pv 7) rfl rfl)) hu))))) (.one (.ret .bl ⟨.inr rfl, ⟨.inr rfl, ⟨.inr rfl, ⟨.inr rfl, ⟨.inr rfl, ⟨.inr rfl, ⟨.inr rfl, ⟨.inr rfl, ⟨.inr rfl, ⟨.inr rfl, trivial⟩⟩⟩⟩⟩⟩⟩⟩⟩⟩)) XSs.nil)))))
  (.one (.ret .bl ⟨.inr rfl, ⟨.inr rfl, ⟨.inr rfl, ⟨.inr rfl, ⟨.inr rfl, ⟨.inr rfl, ⟨.inr rfl, ⟨.inr rfl, ⟨.inr rfl, ⟨.inr rfl, trivial⟩⟩⟩⟩⟩⟩⟩⟩⟩⟩)))))))
/-! ### Tree.junction -/
abbrev T_junction_N : List Str := ["self", "one", "other", "least", "node", "mate"]
abbrev T_junction_ps : List Type := [TreeD, (Int × Int), (Int × Int)]
abbrev T_junction_ls : List Type := [Int, Int, Int]
abbrev T_junction_T : List Type := [TreeD, (Int × Int), (Int × Int), Int, Int, Int]
abbrev T_junction_self : Var T_junction_T TreeD := .vz
abbrev T_junction_one : Var T_junction_T (Int × Int) := .vs .vz
abbrev T_junction_other : Var T_junction_T (Int × Int) := .vs (.vs .vz)
abbrev T_junction_least : Var T_junction_T Int := .vs (.vs (.vs .vz))
abbrev T_junction_node : Var T_junction_T Int := .vs (.vs (.vs (.vs .vz)))
abbrev T_junction_mate : Var T_junction_T Int := .vs (.vs (.vs (.vs (.vs .vz))))
abbrev T_junction_G (K : Fr) (C : Nat → Addr) (v0 v1 v2 : V) : RTs K T_junction_T := ((RT.tree K (C 0), ((RT.dat K (Int × Int), ((RT.dat K (Int × Int), ((RT.dat K Int, ((RT.dat K Int, ((RT.dat K Int, ()) : RT K Int × RTs K [])) : RT K Int × RTs K [Int])) : RT K Int × RTs K [Int, Int])) : RT K (Int × Int) × RTs K [Int, Int, Int])) : RT K (Int × Int) × RTs K [(Int × Int), Int, Int, Int])) : RT K TreeD × RTs K [(Int × Int), (Int × Int), Int, Int, Int])
abbrev T_junction_Gr (K : Fr) (C : Nat → Addr) (v0 v1 v2 : V) : RTs K T_junction_T := ((RT.dead K TreeD, ((RT.dead K (Int × Int), ((RT.dead K (Int × Int), ((RT.dead K Int, ((RT.dead K Int, ((RT.dead K Int, ()) : RT K Int × RTs K [])) : RT K Int × RTs K [Int])) : RT K Int × RTs K [Int, Int])) : RT K (Int × Int) × RTs K [Int, Int, Int])) : RT K (Int × Int) × RTs K [(Int × Int), Int, Int, Int])) : RT K TreeD × RTs K [(Int × Int), (Int × Int), Int, Int, Int])
abbrev T_junction_R (K : Fr) (C : Nat → Addr) : RT K Int := RT.dat K Int
noncomputable def T_junction_m : MS T_junction_T Int := (sSeq (sAsg T_junction_least (m2 imin (mCall (.v (.v .nil)) (bodyF (ps := T_height_ps) (ls := T_height_ls) T_height_m) (aV (mV T_junction_self) (aV (mV T_junction_one) aNil))) (mCall (.v (.v .nil)) (bodyF (ps := T_height_ps) (ls := T_height_ls) T_height_m) (aV (mV T_junction_self) (aV (mV T_junction_other) aNil)))))
  (sSeq (sPar T_junction_node T_junction_mate (m1 fst' (mV T_junction_one)) (m1 fst' (mV T_junction_other)))
  (sSeq (sWhile (m2 ine (mV T_junction_node) (mV T_junction_mate)) (sIf (m2 igt (mV T_junction_node) (mV T_junction_mate)) (sAsg T_junction_node (m2 idx (m1 fPs (mV T_junction_self)) (mV T_junction_node))) (sAsg T_junction_mate (m2 idx (m1 fPs (mV T_junction_self)) (mV T_junction_mate)))))
  (sRet (m2 imin (mV T_junction_least) (m2 idx (m1 fHs (mV T_junction_self)) (mV T_junction_node)))))))
noncomputable abbrev T_junction_fs (K : Fr) (C : Nat → Addr) : Fs K := { ps := T_junction_ps, Γp := (((RT.tree K (C 0), ((RT.dat K (Int × Int), ((RT.dat K (Int × Int), ()) : RT K (Int × Int) × RTs K [])) : RT K (Int × Int) × RTs K [(Int × Int)])) : RT K TreeD × RTs K [(Int × Int), (Int × Int)]) : RTs K T_junction_ps), Γo := (((RT.dead K TreeD, ((RT.dead K (Int × Int), ((RT.dead K (Int × Int), ()) : RT K (Int × Int) × RTs K [])) : RT K (Int × Int) × RTs K [(Int × Int)])) : RT K TreeD × RTs K [(Int × Int), (Int × Int)]) : RTs K T_junction_ps), ρ := Int, R := T_junction_R K C, f := (bodyF (ps := T_junction_ps) (ls := T_junction_ls) T_junction_m) }
theorem T_junction_sc : FnScope ["self", "one", "other", "least", "node", "mate"] ["self", "one", "other"] (defScope (inClass (topS 18) 6)) := ⟨rfl, rfl, rfl, by decide +kernel, rfl, by decide +kernel, by decide +kernel⟩
theorem T_junction_ok {fa : Addr} {fd : FuncData} (F : Fun K "junction" "Tree.junction" (inClass (topS 18) 6) fa fd) (TC0 : TC K (C 0)) (RU : RuA K mg (clsR C)) {a_T_height : Addr} {d_T_height : FuncData} (G_T_height : FnOk Pr w K mg base CX0 4 a_T_height d_T_height ["self", "point"] (spF (T_height_fs K C))) (b_T_height : Binds K d_T_height ["self", "point"] []) (h_T_height : Meth K (C 0) "height" a_T_height) (z_min : mg "min" = none) : FnOk Pr w K mg base CX0 5 fa fd ["self", "one", "other"] (spF (T_junction_fs K C)) := by
  refine fs_ok (k := 4) F T_junction_sc (ps := T_junction_ps) (ls := T_junction_ls) (m := T_junction_m) rfl rfl fun cdv A outer s H vs E hl hr => ?_
  obtain ⟨v0, v1, v2, rfl⟩ := len3 hl
  have hu : (A.deeper (PyProof.Rows.envOfC "Tree.junction" (defScope (inClass (topS 18) 6)) s.heap.objs.size fa cdv)).units + 65 < cLine := by have := hr.un; omega
  refine ⟨T_junction_G K C v0 v1 v2, T_junction_Gr K C v0 v1 v2, T_junction_G K C v0 v1 v2, ⟨fun _ _ _ _ _ _ h => h, fun _ _ _ _ _ _ h => h, fun _ _ _ _ _ _ h => h, trivial⟩, ⟨fun _ _ _ _ _ _ _ _ => trivial, fun _ _ _ _ _ _ _ _ => trivial, fun _ _ _ _ _ _ _ _ => trivial, trivial⟩, ?_⟩
  exact (.cons (Γ1 := T_junction_G _ C v0 v1 v2)
    (.asg (x := T_junction_least) (.min2 rfl (by rfl) z_min (.meth (.v .nil) TC0.cl h_T_height G_T_height (hr.mono (by decide)) b_T_height rfl (tree_ins (by decide +kernel) (by decide +kernel) (by decide +kernel)) (.name (x := T_junction_self) (pv 0) rfl rfl) (.v rfl (.name (x := T_junction_one) (pv 1) rfl rfl) XA.nil) (om := trivial)) (.meth (.v .nil) TC0.cl h_T_height G_T_height (hr.mono (by decide)) b_T_height rfl (tree_ins (by decide +kernel) (by decide +kernel) (by decide +kernel)) (.name (x := T_junction_self) (pv 0) rfl rfl) (.v rfl (.name (x := T_junction_other) (pv 2) rfl rfl) XA.nil) (om := trivial))) T_junction_sc.nd rfl (.inl rfl))
  (.cons (Γ1 := T_junction_G _ C v0 v1 v2)
    (.par (x := T_junction_node) (y := T_junction_mate) rfl T_junction_sc.nd rfl rfl (by decide) rfl rfl (.fst (.name (x := T_junction_one) (pv 1) rfl rfl)) (.fst (.name (x := T_junction_other) (pv 2) rfl rfl)) rfl)
  (.cons (Γ1 := T_junction_G _ C v0 v1 v2)
    (.while_ PassesOwn.never (.ofC (.ne (.name (x := T_junction_node) (pv 4) rfl rfl) (.name (x := T_junction_mate) (pv 5) rfl rfl) hu)) (.one (.ite (.ofC (.gt (.name (x := T_junction_node) (pv 4) rfl rfl) (.name (x := T_junction_mate) (pv 5) rfl rfl))) (.one (.asg (x := T_junction_node) (.idx (.fPs TC0 (.name (x := T_junction_self) (pv 0) rfl rfl)) (.name (x := T_junction_node) (pv 4) rfl rfl)) T_junction_sc.nd rfl (.inl rfl))) (.one (.asg (x := T_junction_mate) (.idx (.fPs TC0 (.name (x := T_junction_self) (pv 0) rfl rfl)) (.name (x := T_junction_mate) (pv 5) rfl rfl)) T_junction_sc.nd rfl (.inl rfl))))) ⟨.inl rfl, ⟨.inl rfl, ⟨.inl rfl, ⟨.inl rfl, ⟨.inl rfl, ⟨.inl rfl, trivial⟩⟩⟩⟩⟩⟩)
  (.one (.ret (.min2 rfl (by rfl) z_min (.name (x := T_junction_least) (pv 3) rfl rfl) (.idx (.fHs TC0 (.name (x := T_junction_self) (pv 0) rfl rfl)) (.name (x := T_junction_node) (pv 4) rfl rfl))) ⟨.inr rfl, ⟨.inr rfl, ⟨.inr rfl, ⟨.inr rfl, ⟨.inr rfl, ⟨.inr rfl, trivial⟩⟩⟩⟩⟩⟩)))))
/-! ### Tree.distance -/
abbrev T_distance_N : List Str := ["self", "one", "other"]
abbrev T_distance_ps : List Type := [TreeD, (Int × Int), (Int × Int)]
abbrev T_distance_ls : List Type := []
abbrev T_distance_T : List Type := [TreeD, (Int × Int), (Int × Int)]
abbrev T_distance_self : Var T_distance_T TreeD := .vz
abbrev T_distance_one : Var T_distance_T (Int × Int) := .vs .vz
abbrev T_distance_other : Var T_distance_T (Int × Int) := .vs (.vs .vz)
abbrev T_distance_G (K : Fr) (C : Nat → Addr) (v0 v1 v2 : V) : RTs K T_distance_T := ((RT.tree K (C 0), ((RT.dat K (Int × Int), ((RT.dat K (Int × Int), ()) : RT K (Int × Int) × RTs K [])) : RT K (Int × Int) × RTs K [(Int × Int)])) : RT K TreeD × RTs K [(Int × Int), (Int × Int)])
abbrev T_distance_Gr (K : Fr) (C : Nat → Addr) (v0 v1 v2 : V) : RTs K T_distance_T := ((RT.dead K TreeD, ((RT.dead K (Int × Int), ((RT.dead K (Int × Int), ()) : RT K (Int × Int) × RTs K [])) : RT K (Int × Int) × RTs K [(Int × Int)])) : RT K TreeD × RTs K [(Int × Int), (Int × Int)])
abbrev T_distance_R (K : Fr) (C : Nat → Addr) : RT K Int := RT.dat K Int
noncomputable def T_distance_m : MS T_distance_T Int := (sRet (m2 isub (m2 iadd (mCall (.v (.v .nil)) (bodyF (ps := T_height_ps) (ls := T_height_ls) T_height_m) (aV (mV T_distance_self) (aV (mV T_distance_one) aNil))) (mCall (.v (.v .nil)) (bodyF (ps := T_height_ps) (ls := T_height_ls) T_height_m) (aV (mV T_distance_self) (aV (mV T_distance_other) aNil)))) (m2 imul (mC (2 : Int)) (mCall (.v (.v (.v .nil))) (bodyF (ps := T_junction_ps) (ls := T_junction_ls) T_junction_m) (aV (mV T_distance_self) (aV (mV T_distance_one) (aV (mV T_distance_other) aNil)))))))
noncomputable abbrev T_distance_fs (K : Fr) (C : Nat → Addr) : Fs K := { ps := T_distance_ps, Γp := (((RT.tree K (C 0), ((RT.dat K (Int × Int), ((RT.dat K (Int × Int), ()) : RT K (Int × Int) × RTs K [])) : RT K (Int × Int) × RTs K [(Int × Int)])) : RT K TreeD × RTs K [(Int × Int), (Int × Int)]) : RTs K T_distance_ps), Γo := (((RT.dead K TreeD, ((RT.dead K (Int × Int), ((RT.dead K (Int × Int), ()) : RT K (Int × Int) × RTs K [])) : RT K (Int × Int) × RTs K [(Int × Int)])) : RT K TreeD × RTs K [(Int × Int), (Int × Int)]) : RTs K T_distance_ps), ρ := Int, R := T_distance_R K C, f := (bodyF (ps := T_distance_ps) (ls := T_distance_ls) T_distance_m) }
theorem T_distance_sc : FnScope ["self", "one", "other"] ["self", "one", "other"] (defScope (inClass (topS 18) 7)) := ⟨rfl, rfl, rfl, by decide +kernel, rfl, by decide +kernel, by decide +kernel⟩
theorem T_distance_ok {fa : Addr} {fd : FuncData} (F : Fun K "distance" "Tree.distance" (inClass (topS 18) 7) fa fd) (TC0 : TC K (C 0)) (RU : RuA K mg (clsR C)) {a_T_height : Addr} {d_T_height : FuncData} (G_T_height : FnOk Pr w K mg base CX0 4 a_T_height d_T_height ["self", "point"] (spF (T_height_fs K C))) (b_T_height : Binds K d_T_height ["self", "point"] []) (h_T_height : Meth K (C 0) "height" a_T_height) {a_T_junction : Addr} {d_T_junction : FuncData} (G_T_junction : FnOk Pr w K mg base CX0 5 a_T_junction d_T_junction ["self", "one", "other"] (spF (T_junction_fs K C))) (b_T_junction : Binds K d_T_junction ["self", "one", "other"] []) (h_T_junction : Meth K (C 0) "junction" a_T_junction) : FnOk Pr w K mg base CX0 6 fa fd ["self", "one", "other"] (spF (T_distance_fs K C)) := by
  refine fs_ok (k := 5) F T_distance_sc (ps := T_distance_ps) (ls := T_distance_ls) (m := T_distance_m) rfl rfl fun cdv A outer s H vs E hl hr => ?_
  obtain ⟨v0, v1, v2, rfl⟩ := len3 hl
  have hu : (A.deeper (PyProof.Rows.envOfC "Tree.distance" (defScope (inClass (topS 18) 7)) s.heap.objs.size fa cdv)).units + 65 < cLine := by have := hr.un; omega
  refine ⟨T_distance_G K C v0 v1 v2, T_distance_Gr K C v0 v1 v2, T_distance_G K C v0 v1 v2, ⟨fun _ _ _ _ _ _ h => h, fun _ _ _ _ _ _ h => h, fun _ _ _ _ _ _ h => h, trivial⟩, ⟨fun _ _ _ _ _ _ _ _ => trivial, fun _ _ _ _ _ _ _ _ => trivial, fun _ _ _ _ _ _ _ _ => trivial, trivial⟩, ?_⟩
  exact (.one (.ret (.sub (.add (.meth (.v .nil) TC0.cl h_T_height G_T_height (hr.mono (by decide)) b_T_height rfl (tree_ins (by decide +kernel) (by decide +kernel) (by decide +kernel)) (.name (x := T_distance_self) (pv 0) rfl rfl) (.v rfl (.name (x := T_distance_one) (pv 1) rfl rfl) XA.nil) (om := trivial)) (.meth (.v .nil) TC0.cl h_T_height G_T_height (hr.mono (by decide)) b_T_height rfl (tree_ins (by decide +kernel) (by decide +kernel) (by decide +kernel)) (.name (x := T_distance_self) (pv 0) rfl rfl) (.v rfl (.name (x := T_distance_other) (pv 2) rfl rfl) XA.nil) (om := trivial))) (.mul .int (.meth (.v (.v .nil)) TC0.cl h_T_junction G_T_junction (hr.mono (by decide)) b_T_junction rfl (tree_ins (by decide +kernel) (by decide +kernel) (by decide +kernel)) (.name (x := T_distance_self) (pv 0) rfl rfl) (.v rfl (.name (x := T_distance_one) (pv 1) rfl rfl) (.v rfl (.name (x := T_distance_other) (pv 2) rfl rfl) XA.nil)) (om := trivial)))) ⟨.inr rfl, ⟨.inr rfl, ⟨.inr rfl, trivial⟩⟩⟩))
/-! ### next_change -/
abbrev next_change_N : List Str := ["tree", "points", "call", "ways", "least", "number", "point", "other", "shared"]
abbrev next_change_ps : List Type := [TreeD, List (Int × Int), (Int × Int)]
abbrev next_change_ls : List Type := [List Int, Int, Int, (Int × Int), Int, Int]
abbrev next_change_T : List Type := [TreeD, List (Int × Int), (Int × Int), List Int, Int, Int, (Int × Int), Int, Int]
abbrev next_change_tree : Var next_change_T TreeD := .vz
abbrev next_change_points : Var next_change_T (List (Int × Int)) := .vs .vz
abbrev next_change_call : Var next_change_T (Int × Int) := .vs (.vs .vz)
abbrev next_change_ways : Var next_change_T (List Int) := .vs (.vs (.vs .vz))
abbrev next_change_least : Var next_change_T Int := .vs (.vs (.vs (.vs .vz)))
abbrev next_change_number : Var next_change_T Int := .vs (.vs (.vs (.vs (.vs .vz))))
abbrev next_change_point : Var next_change_T (Int × Int) := .vs (.vs (.vs (.vs (.vs (.vs .vz)))))
abbrev next_change_other : Var next_change_T Int := .vs (.vs (.vs (.vs (.vs (.vs (.vs .vz))))))
abbrev next_change_shared : Var next_change_T Int := .vs (.vs (.vs (.vs (.vs (.vs (.vs (.vs .vz)))))))
abbrev next_change_G (K : Fr) (C : Nat → Addr) (v0 v1 v2 : V) : RTs K next_change_T := ((RT.tree K (C 0), ((RT.dat K (List (Int × Int)), ((RT.dat K (Int × Int), ((RT.dat K (List Int), ((RT.dat K Int, ((RT.dat K Int, ((RT.dat K (Int × Int), ((RT.dat K Int, ((RT.dat K Int, ()) : RT K Int × RTs K [])) : RT K Int × RTs K [Int])) : RT K (Int × Int) × RTs K [Int, Int])) : RT K Int × RTs K [(Int × Int), Int, Int])) : RT K Int × RTs K [Int, (Int × Int), Int, Int])) : RT K (List Int) × RTs K [Int, Int, (Int × Int), Int, Int])) : RT K (Int × Int) × RTs K [List Int, Int, Int, (Int × Int), Int, Int])) : RT K (List (Int × Int)) × RTs K [(Int × Int), List Int, Int, Int, (Int × Int), Int, Int])) : RT K TreeD × RTs K [List (Int × Int), (Int × Int), List Int, Int, Int, (Int × Int), Int, Int])
abbrev next_change_Gr (K : Fr) (C : Nat → Addr) (v0 v1 v2 : V) : RTs K next_change_T := ((RT.dead K TreeD, ((RT.dead K (List (Int × Int)), ((RT.dead K (Int × Int), ((RT.dead K (List Int), ((RT.dead K Int, ((RT.dead K Int, ((RT.dead K (Int × Int), ((RT.dead K Int, ((RT.dead K Int, ()) : RT K Int × RTs K [])) : RT K Int × RTs K [Int])) : RT K (Int × Int) × RTs K [Int, Int])) : RT K Int × RTs K [(Int × Int), Int, Int])) : RT K Int × RTs K [Int, (Int × Int), Int, Int])) : RT K (List Int) × RTs K [Int, Int, (Int × Int), Int, Int])) : RT K (Int × Int) × RTs K [List Int, Int, Int, (Int × Int), Int, Int])) : RT K (List (Int × Int)) × RTs K [(Int × Int), List Int, Int, Int, (Int × Int), Int, Int])) : RT K TreeD × RTs K [List (Int × Int), (Int × Int), List Int, Int, Int, (Int × Int), Int, Int])
abbrev next_change_R (K : Fr) (C : Nat → Addr) : RT K Int := RT.dat K Int
noncomputable def next_change_m : MS next_change_T Int := (sSeq (sAsg next_change_ways (mLc (mV next_change_points) (fun y s => next_change_point.set (some y) s) (Own.one next_change_point).rs (mC true) (mCall (.v (.v (.v .nil))) (bodyF (ps := T_distance_ps) (ls := T_distance_ls) T_distance_m) (aV (mV next_change_tree) (aV (mV next_change_point) (aV (mV next_change_call) aNil))))))
  (sSeq (sAsg next_change_least (m1 minL (mV next_change_ways)))
  (sSeq (sFor (m1 enumL (mV next_change_points)) (fun z s => next_change_point.set (some z.2) (next_change_number.set (some z.1) s)) (sFor (m1 rng (mV next_change_number)) (fun y s => next_change_other.set (some y) s) (sSeq (sAsg next_change_shared (m2 idiv (m2 isub (m2 iadd (m2 idx (mV next_change_ways) (mV next_change_number)) (m2 idx (mV next_change_ways) (mV next_change_other))) (mCall (.v (.v (.v .nil))) (bodyF (ps := T_distance_ps) (ls := T_distance_ls) T_distance_m) (aV (mV next_change_tree) (aV (mV next_change_point) (aV (m2 idx (mV next_change_points) (mV next_change_other)) aNil))))) (mC (2 : Int))))
  (sAsg next_change_least (m3 imin3 (mV next_change_least) (m2 isub (m2 idx (mV next_change_ways) (mV next_change_number)) (mV next_change_shared)) (m2 isub (m2 idx (mV next_change_ways) (mV next_change_other)) (mV next_change_shared)))))))
  (sRet (mV next_change_least)))))
noncomputable abbrev next_change_fs (K : Fr) (C : Nat → Addr) : Fs K := { ps := next_change_ps, Γp := (((RT.tree K (C 0), ((RT.dat K (List (Int × Int)), ((RT.dat K (Int × Int), ()) : RT K (Int × Int) × RTs K [])) : RT K (List (Int × Int)) × RTs K [(Int × Int)])) : RT K TreeD × RTs K [List (Int × Int), (Int × Int)]) : RTs K next_change_ps), Γo := (((RT.dead K TreeD, ((RT.dead K (List (Int × Int)), ((RT.dead K (Int × Int), ()) : RT K (Int × Int) × RTs K [])) : RT K (List (Int × Int)) × RTs K [(Int × Int)])) : RT K TreeD × RTs K [List (Int × Int), (Int × Int)]) : RTs K next_change_ps), ρ := Int, R := next_change_R K C, f := (bodyF (ps := next_change_ps) (ls := next_change_ls) next_change_m) }
theorem next_change_sc : FnScope ["tree", "points", "call", "ways", "least", "number", "point", "other", "shared"] ["tree", "points", "call"] (defScope (topS 6)) := ⟨rfl, rfl, rfl, by decide +kernel, rfl, by decide +kernel, by decide +kernel⟩
theorem next_change_ok {fa : Addr} {fd : FuncData} (F : Fun K "next_change" "next_change" (topS 6) fa fd) (TC0 : TC K (C 0)) (RU : RuA K mg (clsR C)) {a_T_distance : Addr} {d_T_distance : FuncData} (G_T_distance : FnOk Pr w K mg base CX0 6 a_T_distance d_T_distance ["self", "one", "other"] (spF (T_distance_fs K C))) (b_T_distance : Binds K d_T_distance ["self", "one", "other"] []) (h_T_distance : Meth K (C 0) "distance" a_T_distance) (z_min : mg "min" = none) (z_enumerate : mg "enumerate" = none) (z_range : mg "range" = none) : FnOk Pr w K mg base CX0 7 fa fd ["tree", "points", "call"] (spF (next_change_fs K C)) := by
  refine fs_ok (k := 6) F next_change_sc (ps := next_change_ps) (ls := next_change_ls) (m := next_change_m) rfl rfl fun cdv A outer s H vs E hl hr => ?_
  obtain ⟨v0, v1, v2, rfl⟩ := len3 hl
  have hu : (A.deeper (PyProof.Rows.envOfC "next_change" (defScope (topS 6)) s.heap.objs.size fa cdv)).units + 65 < cLine := by have := hr.un; omega
  refine ⟨next_change_G K C v0 v1 v2, next_change_Gr K C v0 v1 v2, next_change_G K C v0 v1 v2, ⟨fun _ _ _ _ _ _ h => h, fun _ _ _ _ _ _ h => h, fun _ _ _ _ _ _ h => h, trivial⟩, ⟨fun _ _ _ _ _ _ _ _ => trivial, fun _ _ _ _ _ _ _ _ => trivial, fun _ _ _ _ _ _ _ _ => trivial, trivial⟩, ?_⟩
  exact (.cons (Γ1 := next_change_G _ C v0 v1 v2)
    (.asgLcG (z := next_change_ways) (Γb := (next_change_G _ C v0 v1 v2)) (own := [("point", 6)]) rfl next_change_sc.nd (blkOk_by (N := next_change_N) (sc := defScope (topS 6)) (by decide +kernel)) (Own.one next_change_point) rfl rfl (sw_true rfl rfl rfl (by decide +kernel)) (.list (.name (x := next_change_points) (pv 1) rfl rfl)) (fixAt rfl) (fun _ _ _ => rfl) (fun _ _ _ _ _ => (.name (x := next_change_point) rfl next_change_sc.nd rfl (.inl rfl))) (fun _ _ _ _ _ => XTs.nil) (fun _ _ _ _ _ => (.meth (.v (.v .nil)) TC0.cl h_T_distance G_T_distance (hr.mono (by decide)) b_T_distance rfl (tree_ins (by decide +kernel) (by decide +kernel) (by decide +kernel)) (.name (x := next_change_tree) (pv 0) rfl rfl) (.v rfl (.name (x := next_change_point) (pv 6) rfl rfl) (.v rfl (.name (x := next_change_call) (pv 2) rfl rfl) XA.nil)) (om := trivial))) (tr := fun t h => (XV.dat h)))
  (.cons (Γ1 := next_change_G _ C v0 v1 v2)
    (.asg (x := next_change_least) (.min1 rfl (by rfl) z_min (.name (x := next_change_ways) (pv 3) rfl rfl)) next_change_sc.nd rfl (.inl rfl))
  (.cons (Γ1 := next_change_G _ C v0 v1 v2)
    (.for_ PassesOwn.never rfl (.enum (by rfl) z_enumerate (.name (x := next_change_points) (pv 1) rfl rfl)) ⟨.inl rfl, ⟨.inl rfl, ⟨.inl rfl, ⟨.inl rfl, ⟨.inl rfl, ⟨.inl rfl, ⟨.inl rfl, ⟨.inl rfl, ⟨.inl rfl, trivial⟩⟩⟩⟩⟩⟩⟩⟩⟩ (.pair (x := next_change_number) (y := next_change_point) rfl next_change_sc.nd rfl (.inl rfl) rfl (.inl rfl) (by decide)) (.one (.for_ PassesOwn.never rfl (.range1 (by rfl) z_range (.name (x := next_change_number) (pv 5) rfl rfl)) ⟨.inl rfl, ⟨.inl rfl, ⟨.inl rfl, ⟨.inl rfl, ⟨.inl rfl, ⟨.inl rfl, ⟨.inl rfl, ⟨.inl rfl, ⟨.inl rfl, trivial⟩⟩⟩⟩⟩⟩⟩⟩⟩ (.name (x := next_change_other) rfl next_change_sc.nd rfl (.inl rfl)) (.cons (Γ1 := next_change_G _ C v0 v1 v2)
    (.asg (x := next_change_shared) (.fdiv (.sub (.add (.idx (.name (x := next_change_ways) (pv 3) rfl rfl) (.name (x := next_change_number) (pv 5) rfl rfl)) (.idx (.name (x := next_change_ways) (pv 3) rfl rfl) (.name (x := next_change_other) (pv 7) rfl rfl))) (.meth (.v (.v .nil)) TC0.cl h_T_distance G_T_distance (hr.mono (by decide)) b_T_distance rfl (tree_ins (by decide +kernel) (by decide +kernel) (by decide +kernel)) (.name (x := next_change_tree) (pv 0) rfl rfl) (.v rfl (.name (x := next_change_point) (pv 6) rfl rfl) (.v rfl (.idx (.name (x := next_change_points) (pv 1) rfl rfl) (.name (x := next_change_other) (pv 7) rfl rfl)) XA.nil)) (om := trivial))) .int) next_change_sc.nd rfl (.inl rfl))
  (.one (.asg (x := next_change_least) (.min3 rfl (by rfl) z_min (.name (x := next_change_least) (pv 4) rfl rfl) (.sub (.idx (.name (x := next_change_ways) (pv 3) rfl rfl) (.name (x := next_change_number) (pv 5) rfl rfl)) (.name (x := next_change_shared) (pv 8) rfl rfl)) (.sub (.idx (.name (x := next_change_ways) (pv 3) rfl rfl) (.name (x := next_change_other) (pv 7) rfl rfl)) (.name (x := next_change_shared) (pv 8) rfl rfl))) next_change_sc.nd rfl (.inl rfl)))))))
  (.one (.ret (.name (x := next_change_least) (pv 4) rfl rfl) ⟨.inr rfl, ⟨.inr rfl, ⟨.inr rfl, ⟨.inr rfl, ⟨.inr rfl, ⟨.inr rfl, ⟨.inr rfl, ⟨.inr rfl, ⟨.inr rfl, trivial⟩⟩⟩⟩⟩⟩⟩⟩⟩)))))
/-! ### lead_nearest -/
abbrev lead_nearest_N : List Str := ["tree", "crew", "call", "ways", "way", "led", "point"]
abbrev lead_nearest_ps : List Type := [TreeD, List (Int × Int), (Int × Int)]
abbrev lead_nearest_ls : List Type := [List Int, Int, List (Int × Int), (Int × Int)]
abbrev lead_nearest_T : List Type := [TreeD, List (Int × Int), (Int × Int), List Int, Int, List (Int × Int), (Int × Int)]
abbrev lead_nearest_tree : Var lead_nearest_T TreeD := .vz
abbrev lead_nearest_crew : Var lead_nearest_T (List (Int × Int)) := .vs .vz
abbrev lead_nearest_call : Var lead_nearest_T (Int × Int) := .vs (.vs .vz)
abbrev lead_nearest_ways : Var lead_nearest_T (List Int) := .vs (.vs (.vs .vz))
abbrev lead_nearest_way : Var lead_nearest_T Int := .vs (.vs (.vs (.vs .vz)))
abbrev lead_nearest_led : Var lead_nearest_T (List (Int × Int)) := .vs (.vs (.vs (.vs (.vs .vz))))
abbrev lead_nearest_point : Var lead_nearest_T (Int × Int) := .vs (.vs (.vs (.vs (.vs (.vs .vz)))))
abbrev lead_nearest_G (K : Fr) (C : Nat → Addr) (v0 v1 v2 : V) : RTs K lead_nearest_T := ((RT.tree K (C 0), ((RT.dat K (List (Int × Int)), ((RT.dat K (Int × Int), ((RT.dat K (List Int), ((RT.dat K Int, ((RT.own K (Int × Int), ((RT.dat K (Int × Int), ()) : RT K (Int × Int) × RTs K [])) : RT K (List (Int × Int)) × RTs K [(Int × Int)])) : RT K Int × RTs K [List (Int × Int), (Int × Int)])) : RT K (List Int) × RTs K [Int, List (Int × Int), (Int × Int)])) : RT K (Int × Int) × RTs K [List Int, Int, List (Int × Int), (Int × Int)])) : RT K (List (Int × Int)) × RTs K [(Int × Int), List Int, Int, List (Int × Int), (Int × Int)])) : RT K TreeD × RTs K [List (Int × Int), (Int × Int), List Int, Int, List (Int × Int), (Int × Int)])
abbrev lead_nearest_Gr (K : Fr) (C : Nat → Addr) (v0 v1 v2 : V) : RTs K lead_nearest_T := ((RT.dead K TreeD, ((RT.dead K (List (Int × Int)), ((RT.dead K (Int × Int), ((RT.dead K (List Int), ((RT.dead K Int, ((RT.dead K (List (Int × Int)), ((RT.dead K (Int × Int), ()) : RT K (Int × Int) × RTs K [])) : RT K (List (Int × Int)) × RTs K [(Int × Int)])) : RT K Int × RTs K [List (Int × Int), (Int × Int)])) : RT K (List Int) × RTs K [Int, List (Int × Int), (Int × Int)])) : RT K (Int × Int) × RTs K [List Int, Int, List (Int × Int), (Int × Int)])) : RT K (List (Int × Int)) × RTs K [(Int × Int), List Int, Int, List (Int × Int), (Int × Int)])) : RT K TreeD × RTs K [List (Int × Int), (Int × Int), List Int, Int, List (Int × Int), (Int × Int)])
abbrev lead_nearest_R (K : Fr) (C : Nat → Addr) : RT K (List (Int × Int) × Int) := RT.pairO K (Int × Int) Int
noncomputable def lead_nearest_m : MS lead_nearest_T (List (Int × Int) × Int) := (sSeq (sAsg lead_nearest_ways (mLc (mV lead_nearest_crew) (fun y s => lead_nearest_point.set (some y) s) (Own.one lead_nearest_point).rs (mC true) (mCall (.v (.v (.v .nil))) (bodyF (ps := T_distance_ps) (ls := T_distance_ls) T_distance_m) (aV (mV lead_nearest_tree) (aV (mV lead_nearest_point) (aV (mV lead_nearest_call) aNil))))))
  (sSeq (sAsg lead_nearest_way (m1 minL (mV lead_nearest_ways)))
  (sSeq (sAsg lead_nearest_led (m1 copyl (mV lead_nearest_crew)))
  (sSeq (sSetI lead_nearest_led (m2 indexOf (mV lead_nearest_ways) (mV lead_nearest_way)) (mV lead_nearest_call))
  (sRet (m2 pair (mV lead_nearest_led) (mV lead_nearest_way)))))))
noncomputable abbrev lead_nearest_fs (K : Fr) (C : Nat → Addr) : Fs K := { ps := lead_nearest_ps, Γp := (((RT.tree K (C 0), ((RT.dat K (List (Int × Int)), ((RT.dat K (Int × Int), ()) : RT K (Int × Int) × RTs K [])) : RT K (List (Int × Int)) × RTs K [(Int × Int)])) : RT K TreeD × RTs K [List (Int × Int), (Int × Int)]) : RTs K lead_nearest_ps), Γo := (((RT.dead K TreeD, ((RT.dead K (List (Int × Int)), ((RT.dead K (Int × Int), ()) : RT K (Int × Int) × RTs K [])) : RT K (List (Int × Int)) × RTs K [(Int × Int)])) : RT K TreeD × RTs K [List (Int × Int), (Int × Int)]) : RTs K lead_nearest_ps), ρ := (List (Int × Int) × Int), R := lead_nearest_R K C, f := (bodyF (ps := lead_nearest_ps) (ls := lead_nearest_ls) lead_nearest_m) }
theorem lead_nearest_sc : FnScope ["tree", "crew", "call", "ways", "way", "led", "point"] ["tree", "crew", "call"] (defScope (topS 7)) := ⟨rfl, rfl, rfl, by decide +kernel, rfl, by decide +kernel, by decide +kernel⟩
theorem lead_nearest_ok {fa : Addr} {fd : FuncData} (F : Fun K "lead_nearest" "lead_nearest" (topS 7) fa fd) (TC0 : TC K (C 0)) (RU : RuA K mg (clsR C)) {a_T_distance : Addr} {d_T_distance : FuncData} (G_T_distance : FnOk Pr w K mg base CX0 6 a_T_distance d_T_distance ["self", "one", "other"] (spF (T_distance_fs K C))) (b_T_distance : Binds K d_T_distance ["self", "one", "other"] []) (h_T_distance : Meth K (C 0) "distance" a_T_distance) (z_min : mg "min" = none) (z_list : mg "list" = none) : FnOk Pr w K mg base CX0 7 fa fd ["tree", "crew", "call"] (spF (lead_nearest_fs K C)) := by
  refine fs_ok (k := 6) F lead_nearest_sc (ps := lead_nearest_ps) (ls := lead_nearest_ls) (m := lead_nearest_m) rfl rfl fun cdv A outer s H vs E hl hr => ?_
  obtain ⟨v0, v1, v2, rfl⟩ := len3 hl
  have hu : (A.deeper (PyProof.Rows.envOfC "lead_nearest" (defScope (topS 7)) s.heap.objs.size fa cdv)).units + 65 < cLine := by have := hr.un; omega
  refine ⟨lead_nearest_G K C v0 v1 v2, lead_nearest_Gr K C v0 v1 v2, lead_nearest_G K C v0 v1 v2, ⟨fun _ _ _ _ _ _ h => h, fun _ _ _ _ _ _ h => h, fun _ _ _ _ _ _ h => h, trivial⟩, ⟨fun _ _ _ _ _ _ _ _ => trivial, fun _ _ _ _ _ _ _ _ => trivial, fun _ _ _ _ _ _ _ _ => trivial, trivial⟩, ?_⟩
  exact (.cons (Γ1 := lead_nearest_G _ C v0 v1 v2)
    (.asgLcG (z := lead_nearest_ways) (Γb := (lead_nearest_G _ C v0 v1 v2)) (own := [("point", 6)]) rfl lead_nearest_sc.nd (blkOk_by (N := lead_nearest_N) (sc := defScope (topS 7)) (by decide +kernel)) (Own.one lead_nearest_point) rfl rfl (sw_true rfl rfl rfl (by decide +kernel)) (.list (.name (x := lead_nearest_crew) (pv 1) rfl rfl)) (fixAt rfl) (fun _ _ _ => rfl) (fun _ _ _ _ _ => (.name (x := lead_nearest_point) rfl lead_nearest_sc.nd rfl (.inl rfl))) (fun _ _ _ _ _ => XTs.nil) (fun _ _ _ _ _ => (.meth (.v (.v .nil)) TC0.cl h_T_distance G_T_distance (hr.mono (by decide)) b_T_distance rfl (tree_ins (by decide +kernel) (by decide +kernel) (by decide +kernel)) (.name (x := lead_nearest_tree) (pv 0) rfl rfl) (.v rfl (.name (x := lead_nearest_point) (pv 6) rfl rfl) (.v rfl (.name (x := lead_nearest_call) (pv 2) rfl rfl) XA.nil)) (om := trivial))) (tr := fun t h => (XV.dat h)))
  (.cons (Γ1 := lead_nearest_G _ C v0 v1 v2)
    (.asg (x := lead_nearest_way) (.min1 rfl (by rfl) z_min (.name (x := lead_nearest_ways) (pv 3) rfl rfl)) lead_nearest_sc.nd rfl (.inl rfl))
  (.cons (Γ1 := lead_nearest_G _ C v0 v1 v2)
    (.asg (x := lead_nearest_led) (.list (by rfl) z_list (.name (x := lead_nearest_crew) (pv 1) rfl rfl)) lead_nearest_sc.nd rfl (.inl rfl))
  (.cons (Γ1 := lead_nearest_G _ C v0 v1 v2)
    (.setI (x := lead_nearest_led) (pv 5) .refl (.name (x := lead_nearest_call) (pv 2) rfl rfl) (.index (.name (x := lead_nearest_ways) (pv 3) rfl rfl) (.name (x := lead_nearest_way) (pv 4) rfl rfl) hu))
  (.one (.retPO (x := lead_nearest_led) (y := lead_nearest_way) (pv 5) (pv 4) rfl rfl rfl ⟨.inr rfl, ⟨.inr rfl, ⟨.inr rfl, ⟨.inr rfl, ⟨.inr rfl, ⟨.inr rfl, ⟨.inr rfl, trivial⟩⟩⟩⟩⟩⟩⟩))))))
/-! ### Tree.on_way -/
abbrev T_on_way_N : List Str := ["self", "point", "one", "other"]
abbrev T_on_way_ps : List Type := [TreeD, (Int × Int), (Int × Int), (Int × Int)]
abbrev T_on_way_ls : List Type := []
abbrev T_on_way_T : List Type := [TreeD, (Int × Int), (Int × Int), (Int × Int)]
abbrev T_on_way_self : Var T_on_way_T TreeD := .vz
abbrev T_on_way_point : Var T_on_way_T (Int × Int) := .vs .vz
abbrev T_on_way_one : Var T_on_way_T (Int × Int) := .vs (.vs .vz)
abbrev T_on_way_other : Var T_on_way_T (Int × Int) := .vs (.vs (.vs .vz))
abbrev T_on_way_G (K : Fr) (C : Nat → Addr) (v0 v1 v2 v3 : V) : RTs K T_on_way_T := ((RT.tree K (C 0), ((RT.dat K (Int × Int), ((RT.dat K (Int × Int), ((RT.dat K (Int × Int), ()) : RT K (Int × Int) × RTs K [])) : RT K (Int × Int) × RTs K [(Int × Int)])) : RT K (Int × Int) × RTs K [(Int × Int), (Int × Int)])) : RT K TreeD × RTs K [(Int × Int), (Int × Int), (Int × Int)])
abbrev T_on_way_Gr (K : Fr) (C : Nat → Addr) (v0 v1 v2 v3 : V) : RTs K T_on_way_T := ((RT.dead K TreeD, ((RT.dead K (Int × Int), ((RT.dead K (Int × Int), ((RT.dead K (Int × Int), ()) : RT K (Int × Int) × RTs K [])) : RT K (Int × Int) × RTs K [(Int × Int)])) : RT K (Int × Int) × RTs K [(Int × Int), (Int × Int)])) : RT K TreeD × RTs K [(Int × Int), (Int × Int), (Int × Int)])
abbrev T_on_way_R (K : Fr) (C : Nat → Addr) : RT K Bool := RT.dat K Bool
noncomputable def T_on_way_m : MS T_on_way_T Bool := (sRet (m2 ieq (m2 iadd (mCall (.v (.v (.v .nil))) (bodyF (ps := T_distance_ps) (ls := T_distance_ls) T_distance_m) (aV (mV T_on_way_self) (aV (mV T_on_way_one) (aV (mV T_on_way_point) aNil)))) (mCall (.v (.v (.v .nil))) (bodyF (ps := T_distance_ps) (ls := T_distance_ls) T_distance_m) (aV (mV T_on_way_self) (aV (mV T_on_way_point) (aV (mV T_on_way_other) aNil))))) (mCall (.v (.v (.v .nil))) (bodyF (ps := T_distance_ps) (ls := T_distance_ls) T_distance_m) (aV (mV T_on_way_self) (aV (mV T_on_way_one) (aV (mV T_on_way_other) aNil))))))
noncomputable abbrev T_on_way_fs (K : Fr) (C : Nat → Addr) : Fs K := { ps := T_on_way_ps, Γp := (((RT.tree K (C 0), ((RT.dat K (Int × Int), ((RT.dat K (Int × Int), ((RT.dat K (Int × Int), ()) : RT K (Int × Int) × RTs K [])) : RT K (Int × Int) × RTs K [(Int × Int)])) : RT K (Int × Int) × RTs K [(Int × Int), (Int × Int)])) : RT K TreeD × RTs K [(Int × Int), (Int × Int), (Int × Int)]) : RTs K T_on_way_ps), Γo := (((RT.dead K TreeD, ((RT.dead K (Int × Int), ((RT.dead K (Int × Int), ((RT.dead K (Int × Int), ()) : RT K (Int × Int) × RTs K [])) : RT K (Int × Int) × RTs K [(Int × Int)])) : RT K (Int × Int) × RTs K [(Int × Int), (Int × Int)])) : RT K TreeD × RTs K [(Int × Int), (Int × Int), (Int × Int)]) : RTs K T_on_way_ps), ρ := Bool, R := T_on_way_R K C, f := (bodyF (ps := T_on_way_ps) (ls := T_on_way_ls) T_on_way_m) }
theorem T_on_way_sc : FnScope ["self", "point", "one", "other"] ["self", "point", "one", "other"] (defScope (inClass (topS 18) 8)) := ⟨rfl, rfl, rfl, by decide +kernel, rfl, by decide +kernel, by decide +kernel⟩
theorem T_on_way_ok {fa : Addr} {fd : FuncData} (F : Fun K "on_way" "Tree.on_way" (inClass (topS 18) 8) fa fd) (TC0 : TC K (C 0)) (RU : RuA K mg (clsR C)) {a_T_distance : Addr} {d_T_distance : FuncData} (G_T_distance : FnOk Pr w K mg base CX0 6 a_T_distance d_T_distance ["self", "one", "other"] (spF (T_distance_fs K C))) (b_T_distance : Binds K d_T_distance ["self", "one", "other"] []) (h_T_distance : Meth K (C 0) "distance" a_T_distance) : FnOk Pr w K mg base CX0 7 fa fd ["self", "point", "one", "other"] (spF (T_on_way_fs K C)) := by
  refine fs_ok (k := 6) F T_on_way_sc (ps := T_on_way_ps) (ls := T_on_way_ls) (m := T_on_way_m) rfl rfl fun cdv A outer s H vs E hl hr => ?_
  obtain ⟨v0, v1, v2, v3, rfl⟩ := len4 hl
  have hu : (A.deeper (PyProof.Rows.envOfC "Tree.on_way" (defScope (inClass (topS 18) 8)) s.heap.objs.size fa cdv)).units + 65 < cLine := by have := hr.un; omega
  refine ⟨T_on_way_G K C v0 v1 v2 v3, T_on_way_Gr K C v0 v1 v2 v3, T_on_way_G K C v0 v1 v2 v3, ⟨fun _ _ _ _ _ _ h => h, fun _ _ _ _ _ _ h => h, fun _ _ _ _ _ _ h => h, fun _ _ _ _ _ _ h => h, trivial⟩, ⟨fun _ _ _ _ _ _ _ _ => trivial, fun _ _ _ _ _ _ _ _ => trivial, fun _ _ _ _ _ _ _ _ => trivial, fun _ _ _ _ _ _ _ _ => trivial, trivial⟩, ?_⟩
  exact (.one (.ret (.ofC (.eq (.add (.meth (.v (.v .nil)) TC0.cl h_T_distance G_T_distance (hr.mono (by decide)) b_T_distance rfl (tree_ins (by decide +kernel) (by decide +kernel) (by decide +kernel)) (.name (x := T_on_way_self) (pv 0) rfl rfl) (.v rfl (.name (x := T_on_way_one) (pv 2) rfl rfl) (.v rfl (.name (x := T_on_way_point) (pv 1) rfl rfl) XA.nil)) (om := trivial)) (.meth (.v (.v .nil)) TC0.cl h_T_distance G_T_distance (hr.mono (by decide)) b_T_distance rfl (tree_ins (by decide +kernel) (by decide +kernel) (by decide +kernel)) (.name (x := T_on_way_self) (pv 0) rfl rfl) (.v rfl (.name (x := T_on_way_point) (pv 1) rfl rfl) (.v rfl (.name (x := T_on_way_other) (pv 3) rfl rfl) XA.nil)) (om := trivial))) (.meth (.v (.v .nil)) TC0.cl h_T_distance G_T_distance (hr.mono (by decide)) b_T_distance rfl (tree_ins (by decide +kernel) (by decide +kernel) (by decide +kernel)) (.name (x := T_on_way_self) (pv 0) rfl rfl) (.v rfl (.name (x := T_on_way_one) (pv 2) rfl rfl) (.v rfl (.name (x := T_on_way_other) (pv 3) rfl rfl) XA.nil)) (om := trivial)) hu)) ⟨.inr rfl, ⟨.inr rfl, ⟨.inr rfl, ⟨.inr rfl, trivial⟩⟩⟩⟩))
/-! ### Tree.towards -/
abbrev T_towards_N : List Str := ["self", "one", "other", "far", "whole"]
abbrev T_towards_ps : List Type := [TreeD, (Int × Int), (Int × Int), Int]
abbrev T_towards_ls : List Type := [Int]
abbrev T_towards_T : List Type := [TreeD, (Int × Int), (Int × Int), Int, Int]
abbrev T_towards_self : Var T_towards_T TreeD := .vz
abbrev T_towards_one : Var T_towards_T (Int × Int) := .vs .vz
abbrev T_towards_other : Var T_towards_T (Int × Int) := .vs (.vs .vz)
abbrev T_towards_far : Var T_towards_T Int := .vs (.vs (.vs .vz))
abbrev T_towards_whole : Var T_towards_T Int := .vs (.vs (.vs (.vs .vz)))
abbrev T_towards_G (K : Fr) (C : Nat → Addr) (v0 v1 v2 v3 : V) : RTs K T_towards_T := ((RT.tree K (C 0), ((RT.dat K (Int × Int), ((RT.dat K (Int × Int), ((RT.dat K Int, ((RT.dat K Int, ()) : RT K Int × RTs K [])) : RT K Int × RTs K [Int])) : RT K (Int × Int) × RTs K [Int, Int])) : RT K (Int × Int) × RTs K [(Int × Int), Int, Int])) : RT K TreeD × RTs K [(Int × Int), (Int × Int), Int, Int])
abbrev T_towards_Gr (K : Fr) (C : Nat → Addr) (v0 v1 v2 v3 : V) : RTs K T_towards_T := ((RT.dead K TreeD, ((RT.dead K (Int × Int), ((RT.dead K (Int × Int), ((RT.dead K Int, ((RT.dead K Int, ()) : RT K Int × RTs K [])) : RT K Int × RTs K [Int])) : RT K (Int × Int) × RTs K [Int, Int])) : RT K (Int × Int) × RTs K [(Int × Int), Int, Int])) : RT K TreeD × RTs K [(Int × Int), (Int × Int), Int, Int])
abbrev T_towards_R (K : Fr) (C : Nat → Addr) : RT K (Int × Int) := RT.dat K (Int × Int)
noncomputable def T_towards_m : MS T_towards_T (Int × Int) := (sSeq (sAsg T_towards_whole (mCall (.v (.v (.v .nil))) (bodyF (ps := T_distance_ps) (ls := T_distance_ls) T_distance_m) (aV (mV T_towards_self) (aV (mV T_towards_one) (aV (mV T_towards_other) aNil)))))
  (sSeq (sIf (mOr (m1 bnot (mCall (.v .nil) (bodyF (ps := is_integer_ps) (ls := is_integer_ls) is_integer_m) (aV (mV T_towards_far) aNil))) (m1 bnot (chn ile ile (mC (0 : Int)) (mV T_towards_far) (mV T_towards_whole)))) sFail sSkip)
  (sSeq (sIf (m2 ile (mV T_towards_far) (m2 isub (mCall (.v (.v .nil)) (bodyF (ps := T_height_ps) (ls := T_height_ls) T_height_m) (aV (mV T_towards_self) (aV (mV T_towards_one) aNil))) (mCall (.v (.v (.v .nil))) (bodyF (ps := T_junction_ps) (ls := T_junction_ls) T_junction_m) (aV (mV T_towards_self) (aV (mV T_towards_one) (aV (mV T_towards_other) aNil)))))) (sRet (mCall (.v (.v (.v .nil))) (bodyF (ps := T_raised_ps) (ls := T_raised_ls) T_raised_m) (aV (mV T_towards_self) (aV (mV T_towards_one) (aV (mV T_towards_far) aNil))))) sSkip)
  (sRet (mCall (.v (.v (.v .nil))) (bodyF (ps := T_raised_ps) (ls := T_raised_ls) T_raised_m) (aV (mV T_towards_self) (aV (mV T_towards_other) (aV (m2 isub (mV T_towards_whole) (mV T_towards_far)) aNil))))))))
noncomputable abbrev T_towards_fs (K : Fr) (C : Nat → Addr) : Fs K := { ps := T_towards_ps, Γp := (((RT.tree K (C 0), ((RT.dat K (Int × Int), ((RT.dat K (Int × Int), ((RT.dat K Int, ()) : RT K Int × RTs K [])) : RT K (Int × Int) × RTs K [Int])) : RT K (Int × Int) × RTs K [(Int × Int), Int])) : RT K TreeD × RTs K [(Int × Int), (Int × Int), Int]) : RTs K T_towards_ps), Γo := (((RT.dead K TreeD, ((RT.dead K (Int × Int), ((RT.dead K (Int × Int), ((RT.dead K Int, ()) : RT K Int × RTs K [])) : RT K (Int × Int) × RTs K [Int])) : RT K (Int × Int) × RTs K [(Int × Int), Int])) : RT K TreeD × RTs K [(Int × Int), (Int × Int), Int]) : RTs K T_towards_ps), ρ := (Int × Int), R := T_towards_R K C, f := (bodyF (ps := T_towards_ps) (ls := T_towards_ls) T_towards_m) }
theorem T_towards_sc : FnScope ["self", "one", "other", "far", "whole"] ["self", "one", "other", "far"] (defScope (inClass (topS 18) 10)) := ⟨rfl, rfl, rfl, by decide +kernel, rfl, by decide +kernel, by decide +kernel⟩
theorem T_towards_ok {fa : Addr} {fd : FuncData} (F : Fun K "towards" "Tree.towards" (inClass (topS 18) 10) fa fd) (TC0 : TC K (C 0)) (RU : RuA K mg (clsR C)) {a_T_distance : Addr} {d_T_distance : FuncData} (G_T_distance : FnOk Pr w K mg base CX0 6 a_T_distance d_T_distance ["self", "one", "other"] (spF (T_distance_fs K C))) (b_T_distance : Binds K d_T_distance ["self", "one", "other"] []) (h_T_distance : Meth K (C 0) "distance" a_T_distance) {a_T_raised : Addr} {d_T_raised : FuncData} (G_T_raised : FnOk Pr w K mg base CX0 1 a_T_raised d_T_raised ["self", "point", "far"] (spF (T_raised_fs K C))) (b_T_raised : Binds K d_T_raised ["self", "point", "far"] []) (h_T_raised : Meth K (C 0) "raised" a_T_raised) {a_is_integer : Addr} {d_is_integer : FuncData} (G_is_integer : FnOk Pr w K mg base CX0 1 a_is_integer d_is_integer ["value"] (spF (is_integer_fs K C))) (b_is_integer : Binds K d_is_integer ["value"] []) (g_is_integer : mg "is_integer" = some (.ref a_is_integer)) (k_is_integer : PySem.W.keepIn K (.ref a_is_integer) = true) {a_T_height : Addr} {d_T_height : FuncData} (G_T_height : FnOk Pr w K mg base CX0 4 a_T_height d_T_height ["self", "point"] (spF (T_height_fs K C))) (b_T_height : Binds K d_T_height ["self", "point"] []) (h_T_height : Meth K (C 0) "height" a_T_height) {a_T_junction : Addr} {d_T_junction : FuncData} (G_T_junction : FnOk Pr w K mg base CX0 5 a_T_junction d_T_junction ["self", "one", "other"] (spF (T_junction_fs K C))) (b_T_junction : Binds K d_T_junction ["self", "one", "other"] []) (h_T_junction : Meth K (C 0) "junction" a_T_junction) : FnOk Pr w K mg base CX0 7 fa fd ["self", "one", "other", "far"] (spF (T_towards_fs K C)) := by
  refine fs_ok (k := 6) F T_towards_sc (ps := T_towards_ps) (ls := T_towards_ls) (m := T_towards_m) rfl rfl fun cdv A outer s H vs E hl hr => ?_
  obtain ⟨v0, v1, v2, v3, rfl⟩ := len4 hl
  have hu : (A.deeper (PyProof.Rows.envOfC "Tree.towards" (defScope (inClass (topS 18) 10)) s.heap.objs.size fa cdv)).units + 65 < cLine := by have := hr.un; omega
  refine ⟨T_towards_G K C v0 v1 v2 v3, T_towards_Gr K C v0 v1 v2 v3, T_towards_G K C v0 v1 v2 v3, ⟨fun _ _ _ _ _ _ h => h, fun _ _ _ _ _ _ h => h, fun _ _ _ _ _ _ h => h, fun _ _ _ _ _ _ h => h, trivial⟩, ⟨fun _ _ _ _ _ _ _ _ => trivial, fun _ _ _ _ _ _ _ _ => trivial, fun _ _ _ _ _ _ _ _ => trivial, fun _ _ _ _ _ _ _ _ => trivial, trivial⟩, ?_⟩
  exact (.cons (Γ1 := T_towards_G _ C v0 v1 v2 v3)
    (.asg (x := T_towards_whole) (.meth (.v (.v .nil)) TC0.cl h_T_distance G_T_distance (hr.mono (by decide)) b_T_distance rfl (tree_ins (by decide +kernel) (by decide +kernel) (by decide +kernel)) (.name (x := T_towards_self) (pv 0) rfl rfl) (.v rfl (.name (x := T_towards_one) (pv 1) rfl rfl) (.v rfl (.name (x := T_towards_other) (pv 2) rfl rfl) XA.nil)) (om := trivial)) T_towards_sc.nd rfl (.inl rfl))
  (.cons (Γ1 := T_towards_G _ C v0 v1 v2 v3)
    (.ite (.ofW (.or (.not (.val (.call (.v .nil) G_is_integer (hr.mono (by decide)) (by rfl) g_is_integer k_is_integer b_is_integer (.v rfl (.name (x := T_towards_far) (pv 3) rfl rfl) XA.nil) (om := trivial)))) (.or1 (.not (.chn ci_le ci_le .int (.name (x := T_towards_far) (pv 3) rfl rfl) (.name (x := T_towards_whole) (pv 4) rfl rfl)))))) XSs.never XSs.nil)
  (.cons (Γ1 := T_towards_G _ C v0 v1 v2 v3)
    (.ite (.ofC (.le (.name (x := T_towards_far) (pv 3) rfl rfl) (.sub (.meth (.v .nil) TC0.cl h_T_height G_T_height (hr.mono (by decide)) b_T_height rfl (tree_ins (by decide +kernel) (by decide +kernel) (by decide +kernel)) (.name (x := T_towards_self) (pv 0) rfl rfl) (.v rfl (.name (x := T_towards_one) (pv 1) rfl rfl) XA.nil) (om := trivial)) (.meth (.v (.v .nil)) TC0.cl h_T_junction G_T_junction (hr.mono (by decide)) b_T_junction rfl (tree_ins (by decide +kernel) (by decide +kernel) (by decide +kernel)) (.name (x := T_towards_self) (pv 0) rfl rfl) (.v rfl (.name (x := T_towards_one) (pv 1) rfl rfl) (.v rfl (.name (x := T_towards_other) (pv 2) rfl rfl) XA.nil)) (om := trivial))))) (.one (.ret (.meth (.v (.v .nil)) TC0.cl h_T_raised G_T_raised (hr.mono (by decide)) b_T_raised rfl (tree_ins (by decide +kernel) (by decide +kernel) (by decide +kernel)) (.name (x := T_towards_self) (pv 0) rfl rfl) (.v rfl (.name (x := T_towards_one) (pv 1) rfl rfl) (.v rfl (.name (x := T_towards_far) (pv 3) rfl rfl) XA.nil)) (om := trivial)) ⟨.inr rfl, ⟨.inr rfl, ⟨.inr rfl, ⟨.inr rfl, ⟨.inr rfl, trivial⟩⟩⟩⟩⟩)) XSs.nil)
  (.one (.ret (.meth (.v (.v .nil)) TC0.cl h_T_raised G_T_raised (hr.mono (by decide)) b_T_raised rfl (tree_ins (by decide +kernel) (by decide +kernel) (by decide +kernel)) (.name (x := T_towards_self) (pv 0) rfl rfl) (.v rfl (.name (x := T_towards_other) (pv 2) rfl rfl) (.v rfl (.sub (.name (x := T_towards_whole) (pv 4) rfl rfl) (.name (x := T_towards_far) (pv 3) rfl rfl)) XA.nil)) (om := trivial)) ⟨.inr rfl, ⟨.inr rfl, ⟨.inr rfl, ⟨.inr rfl, ⟨.inr rfl, trivial⟩⟩⟩⟩⟩)))))
/-! ### sees -/
abbrev sees_N : List Str := ["tree", "crew", "call", "number", "own", "other", "point"]
abbrev sees_ps : List Type := [TreeD, List (Int × Int), (Int × Int), Int]
abbrev sees_ls : List Type := [(Int × Int), Int, (Int × Int)]
abbrev sees_T : List Type := [TreeD, List (Int × Int), (Int × Int), Int, (Int × Int), Int, (Int × Int)]
abbrev sees_tree : Var sees_T TreeD := .vz
abbrev sees_crew : Var sees_T (List (Int × Int)) := .vs .vz
abbrev sees_call : Var sees_T (Int × Int) := .vs (.vs .vz)
abbrev sees_number : Var sees_T Int := .vs (.vs (.vs .vz))
abbrev sees_own : Var sees_T (Int × Int) := .vs (.vs (.vs (.vs .vz)))
abbrev sees_other : Var sees_T Int := .vs (.vs (.vs (.vs (.vs .vz))))
abbrev sees_point : Var sees_T (Int × Int) := .vs (.vs (.vs (.vs (.vs (.vs .vz)))))
abbrev sees_G (K : Fr) (C : Nat → Addr) (v0 v1 v2 v3 : V) : RTs K sees_T := ((RT.tree K (C 0), ((RT.dat K (List (Int × Int)), ((RT.dat K (Int × Int), ((RT.dat K Int, ((RT.dat K (Int × Int), ((RT.dat K Int, ((RT.dat K (Int × Int), ()) : RT K (Int × Int) × RTs K [])) : RT K Int × RTs K [(Int × Int)])) : RT K (Int × Int) × RTs K [Int, (Int × Int)])) : RT K Int × RTs K [(Int × Int), Int, (Int × Int)])) : RT K (Int × Int) × RTs K [Int, (Int × Int), Int, (Int × Int)])) : RT K (List (Int × Int)) × RTs K [(Int × Int), Int, (Int × Int), Int, (Int × Int)])) : RT K TreeD × RTs K [List (Int × Int), (Int × Int), Int, (Int × Int), Int, (Int × Int)])
abbrev sees_Gr (K : Fr) (C : Nat → Addr) (v0 v1 v2 v3 : V) : RTs K sees_T := ((RT.dead K TreeD, ((RT.dead K (List (Int × Int)), ((RT.dead K (Int × Int), ((RT.dead K Int, ((RT.dead K (Int × Int), ((RT.dead K Int, ((RT.dead K (Int × Int), ()) : RT K (Int × Int) × RTs K [])) : RT K Int × RTs K [(Int × Int)])) : RT K (Int × Int) × RTs K [Int, (Int × Int)])) : RT K Int × RTs K [(Int × Int), Int, (Int × Int)])) : RT K (Int × Int) × RTs K [Int, (Int × Int), Int, (Int × Int)])) : RT K (List (Int × Int)) × RTs K [(Int × Int), Int, (Int × Int), Int, (Int × Int)])) : RT K TreeD × RTs K [List (Int × Int), (Int × Int), Int, (Int × Int), Int, (Int × Int)])
abbrev sees_R (K : Fr) (C : Nat → Addr) : RT K Bool := RT.dat K Bool
noncomputable def sees_m : MS sees_T Bool := (sSeq (sAsg sees_own (m2 idx (mV sees_crew) (mV sees_number)))
  (sSeq (sFor (m1 enumL (mV sees_crew)) (fun z s => sees_point.set (some z.2) (sees_other.set (some z.1) s)) (sIf (m2 ieq (mV sees_point) (mV sees_own)) (sIf (m2 ilt (mV sees_other) (mV sees_number)) (sRet (mC false)) sSkip) (sIf (mCall (.v (.v (.v (.v .nil)))) (bodyF (ps := T_on_way_ps) (ls := T_on_way_ls) T_on_way_m) (aV (mV sees_tree) (aV (mV sees_point) (aV (mV sees_own) (aV (mV sees_call) aNil))))) (sRet (mC false)) sSkip)))
  (sRet (mC true))))
noncomputable abbrev sees_fs (K : Fr) (C : Nat → Addr) : Fs K := { ps := sees_ps, Γp := (((RT.tree K (C 0), ((RT.dat K (List (Int × Int)), ((RT.dat K (Int × Int), ((RT.dat K Int, ()) : RT K Int × RTs K [])) : RT K (Int × Int) × RTs K [Int])) : RT K (List (Int × Int)) × RTs K [(Int × Int), Int])) : RT K TreeD × RTs K [List (Int × Int), (Int × Int), Int]) : RTs K sees_ps), Γo := (((RT.dead K TreeD, ((RT.dead K (List (Int × Int)), ((RT.dead K (Int × Int), ((RT.dead K Int, ()) : RT K Int × RTs K [])) : RT K (Int × Int) × RTs K [Int])) : RT K (List (Int × Int)) × RTs K [(Int × Int), Int])) : RT K TreeD × RTs K [List (Int × Int), (Int × Int), Int]) : RTs K sees_ps), ρ := Bool, R := sees_R K C, f := (bodyF (ps := sees_ps) (ls := sees_ls) sees_m) }
theorem sees_sc : FnScope ["tree", "crew", "call", "number", "own", "other", "point"] ["tree", "crew", "call", "number"] (defScope (topS 4)) := ⟨rfl, rfl, rfl, by decide +kernel, rfl, by decide +kernel, by decide +kernel⟩
theorem sees_ok {fa : Addr} {fd : FuncData} (F : Fun K "sees" "sees" (topS 4) fa fd) (TC0 : TC K (C 0)) (RU : RuA K mg (clsR C)) {a_T_on_way : Addr} {d_T_on_way : FuncData} (G_T_on_way : FnOk Pr w K mg base CX0 7 a_T_on_way d_T_on_way ["self", "point", "one", "other"] (spF (T_on_way_fs K C))) (b_T_on_way : Binds K d_T_on_way ["self", "point", "one", "other"] []) (h_T_on_way : Meth K (C 0) "on_way" a_T_on_way) (z_enumerate : mg "enumerate" = none) : FnOk Pr w K mg base CX0 8 fa fd ["tree", "crew", "call", "number"] (spF (sees_fs K C)) := by
  refine fs_ok (k := 7) F sees_sc (ps := sees_ps) (ls := sees_ls) (m := sees_m) rfl rfl fun cdv A outer s H vs E hl hr => ?_
  obtain ⟨v0, v1, v2, v3, rfl⟩ := len4 hl
  have hu : (A.deeper (PyProof.Rows.envOfC "sees" (defScope (topS 4)) s.heap.objs.size fa cdv)).units + 65 < cLine := by have := hr.un; omega
  refine ⟨sees_G K C v0 v1 v2 v3, sees_Gr K C v0 v1 v2 v3, sees_G K C v0 v1 v2 v3, ⟨fun _ _ _ _ _ _ h => h, fun _ _ _ _ _ _ h => h, fun _ _ _ _ _ _ h => h, fun _ _ _ _ _ _ h => h, trivial⟩, ⟨fun _ _ _ _ _ _ _ _ => trivial, fun _ _ _ _ _ _ _ _ => trivial, fun _ _ _ _ _ _ _ _ => trivial, fun _ _ _ _ _ _ _ _ => trivial, trivial⟩, ?_⟩
  exact (.cons (Γ1 := sees_G _ C v0 v1 v2 v3)
    (.asg (x := sees_own) (.idx (.name (x := sees_crew) (pv 1) rfl rfl) (.name (x := sees_number) (pv 3) rfl rfl)) sees_sc.nd rfl (.inl rfl))
  (.cons (Γ1 := sees_G _ C v0 v1 v2 v3)
    (.for_ PassesOwn.never rfl (.enum (by rfl) z_enumerate (.name (x := sees_crew) (pv 1) rfl rfl)) ⟨.inl rfl, ⟨.inl rfl, ⟨.inl rfl, ⟨.inl rfl, ⟨.inl rfl, ⟨.inl rfl, ⟨.inl rfl, trivial⟩⟩⟩⟩⟩⟩⟩ (.pair (x := sees_other) (y := sees_point) rfl sees_sc.nd rfl (.inl rfl) rfl (.inl rfl) (by decide)) (.one (.ite (.ofC (.eq (.name (x := sees_point) (pv 6) rfl rfl) (.name (x := sees_own) (pv 4) rfl rfl) hu)) (.one (.ite (.ofC (.lt (.name (x := sees_other) (pv 5) rfl rfl) (.name (x := sees_number) (pv 3) rfl rfl))) (.one (.ret .bl ⟨.inr rfl, ⟨.inr rfl, ⟨.inr rfl, ⟨.inr rfl, ⟨.inr rfl, ⟨.inr rfl, ⟨.inr rfl, trivial⟩⟩⟩⟩⟩⟩⟩)) XSs.nil)) (.one (.ite (.val (.meth (.v (.v (.v .nil))) TC0.cl h_T_on_way G_T_on_way (hr.mono (by decide)) b_T_on_way rfl (tree_ins (by decide +kernel) (by decide +kernel) (by decide +kernel)) (.name (x := sees_tree) (pv 0) rfl rfl) (.v rfl (.name (x := sees_point) (pv 6) rfl rfl) (.v rfl (.name (x := sees_own) (pv 4) rfl rfl) (.v rfl (.name (x := sees_call) (pv 2) rfl rfl) XA.nil))) (om := trivial))) (.one (.ret .bl ⟨.inr rfl, ⟨.inr rfl, ⟨.inr rfl, ⟨.inr rfl, ⟨.inr rfl, ⟨.inr rfl, ⟨.inr rfl, trivial⟩⟩⟩⟩⟩⟩⟩)) XSs.nil)))))
  (.one (.ret .bl ⟨.inr rfl, ⟨.inr rfl, ⟨.inr rfl, ⟨.inr rfl, ⟨.inr rfl, ⟨.inr rfl, ⟨.inr rfl, trivial⟩⟩⟩⟩⟩⟩⟩))))
/-! ### seers -/
abbrev seers_N : List Str := ["tree", "crew", "call", "number"]
abbrev seers_ps : List Type := [TreeD, List (Int × Int), (Int × Int)]
abbrev seers_ls : List Type := [Int]
abbrev seers_T : List Type := [TreeD, List (Int × Int), (Int × Int), Int]
abbrev seers_tree : Var seers_T TreeD := .vz
abbrev seers_crew : Var seers_T (List (Int × Int)) := .vs .vz
abbrev seers_call : Var seers_T (Int × Int) := .vs (.vs .vz)
abbrev seers_number : Var seers_T Int := .vs (.vs (.vs .vz))
abbrev seers_G (K : Fr) (C : Nat → Addr) (v0 v1 v2 : V) : RTs K seers_T := ((RT.tree K (C 0), ((RT.dat K (List (Int × Int)), ((RT.dat K (Int × Int), ((RT.dat K Int, ()) : RT K Int × RTs K [])) : RT K (Int × Int) × RTs K [Int])) : RT K (List (Int × Int)) × RTs K [(Int × Int), Int])) : RT K TreeD × RTs K [List (Int × Int), (Int × Int), Int])
abbrev seers_Gr (K : Fr) (C : Nat → Addr) (v0 v1 v2 : V) : RTs K seers_T := ((RT.dead K TreeD, ((RT.dead K (List (Int × Int)), ((RT.dead K (Int × Int), ((RT.dead K Int, ()) : RT K Int × RTs K [])) : RT K (Int × Int) × RTs K [Int])) : RT K (List (Int × Int)) × RTs K [(Int × Int), Int])) : RT K TreeD × RTs K [List (Int × Int), (Int × Int), Int])
abbrev seers_R (K : Fr) (C : Nat → Addr) : RT K (List Int) := RT.own K Int
noncomputable def seers_m : MS seers_T (List Int) := (sRet (mLc (m1 rng (m1 ilen (mV seers_crew))) (fun y s => seers_number.set (some y) s) (Own.one seers_number).rs (mCall (.v (.v (.v (.v .nil)))) (bodyF (ps := sees_ps) (ls := sees_ls) sees_m) (aV (mV seers_tree) (aV (mV seers_crew) (aV (mV seers_call) (aV (mV seers_number) aNil))))) (mV seers_number)))
noncomputable abbrev seers_fs (K : Fr) (C : Nat → Addr) : Fs K := { ps := seers_ps, Γp := (((RT.tree K (C 0), ((RT.dat K (List (Int × Int)), ((RT.dat K (Int × Int), ()) : RT K (Int × Int) × RTs K [])) : RT K (List (Int × Int)) × RTs K [(Int × Int)])) : RT K TreeD × RTs K [List (Int × Int), (Int × Int)]) : RTs K seers_ps), Γo := (((RT.dead K TreeD, ((RT.dead K (List (Int × Int)), ((RT.dead K (Int × Int), ()) : RT K (Int × Int) × RTs K [])) : RT K (List (Int × Int)) × RTs K [(Int × Int)])) : RT K TreeD × RTs K [List (Int × Int), (Int × Int)]) : RTs K seers_ps), ρ := List Int, R := seers_R K C, f := (bodyF (ps := seers_ps) (ls := seers_ls) seers_m) }
theorem seers_sc : FnScope ["tree", "crew", "call", "number"] ["tree", "crew", "call"] (defScope (topS 5)) := ⟨rfl, rfl, rfl, by decide +kernel, rfl, by decide +kernel, by decide +kernel⟩
theorem seers_ok {fa : Addr} {fd : FuncData} (F : Fun K "seers" "seers" (topS 5) fa fd) (TC0 : TC K (C 0)) (RU : RuA K mg (clsR C)) {a_sees : Addr} {d_sees : FuncData} (G_sees : FnOk Pr w K mg base CX0 8 a_sees d_sees ["tree", "crew", "call", "number"] (spF (sees_fs K C))) (b_sees : Binds K d_sees ["tree", "crew", "call", "number"] []) (g_sees : mg "sees" = some (.ref a_sees)) (k_sees : PySem.W.keepIn K (.ref a_sees) = true) (z_range : mg "range" = none) (z_len : mg "len" = none) : FnOk Pr w K mg base CX0 9 fa fd ["tree", "crew", "call"] (spF (seers_fs K C)) := by
  refine fs_ok (k := 8) F seers_sc (ps := seers_ps) (ls := seers_ls) (m := seers_m) rfl rfl fun cdv A outer s H vs E hl hr => ?_
  obtain ⟨v0, v1, v2, rfl⟩ := len3 hl
  have hu : (A.deeper (PyProof.Rows.envOfC "seers" (defScope (topS 5)) s.heap.objs.size fa cdv)).units + 65 < cLine := by have := hr.un; omega
  refine ⟨seers_G K C v0 v1 v2, seers_Gr K C v0 v1 v2, seers_G K C v0 v1 v2, ⟨fun _ _ _ _ _ _ h => h, fun _ _ _ _ _ _ h => h, fun _ _ _ _ _ _ h => h, trivial⟩, ⟨fun _ _ _ _ _ _ _ _ => trivial, fun _ _ _ _ _ _ _ _ => trivial, fun _ _ _ _ _ _ _ _ => trivial, trivial⟩, ?_⟩
  exact (.one (.ret (.lc (own := [("number", 3)]) rfl seers_sc.nd (blkOk_by (N := seers_N) (sc := defScope (topS 5)) (by decide +kernel)) (Own.one seers_number) (.range1 (by rfl) z_range (.len (by rfl) z_len (.name (x := seers_crew) (pv 1) rfl rfl))) (fixAt rfl) (fun _ _ _ => rfl) (fun _ _ _ _ _ => (.name (x := seers_number) rfl seers_sc.nd rfl (.inl rfl))) (fun _ _ _ _ _ => (XTs.one (.val (.call (.v (.v (.v (.v .nil)))) G_sees (hr.mono (by decide)) (by rfl) g_sees k_sees b_sees (.v rfl (.name (x := seers_tree) (pv 0) rfl rfl) (.v rfl (.name (x := seers_crew) (pv 1) rfl rfl) (.v rfl (.name (x := seers_call) (pv 2) rfl rfl) (.v rfl (.name (x := seers_number) (pv 3) rfl rfl) XA.nil)))) (om := trivial))))) (fun _ _ _ _ _ => (.name (x := seers_number) (pv 3) rfl rfl))) ⟨.inr rfl, ⟨.inr rfl, ⟨.inr rfl, ⟨.inr rfl, trivial⟩⟩⟩⟩))
/-! ### lead_both -/
abbrev lead_both_N : List Str := ["tree", "crew", "call", "led", "way", "going", "far", "number"]
abbrev lead_both_ps : List Type := [TreeD, List (Int × Int), (Int × Int)]
abbrev lead_both_ls : List Type := [List (Int × Int), Int, List Int, Int, Int]
abbrev lead_both_T : List Type := [TreeD, List (Int × Int), (Int × Int), List (Int × Int), Int, List Int, Int, Int]
abbrev lead_both_tree : Var lead_both_T TreeD := .vz
abbrev lead_both_crew : Var lead_both_T (List (Int × Int)) := .vs .vz
abbrev lead_both_call : Var lead_both_T (Int × Int) := .vs (.vs .vz)
abbrev lead_both_led : Var lead_both_T (List (Int × Int)) := .vs (.vs (.vs .vz))
abbrev lead_both_way : Var lead_both_T Int := .vs (.vs (.vs (.vs .vz)))
abbrev lead_both_going : Var lead_both_T (List Int) := .vs (.vs (.vs (.vs (.vs .vz))))
abbrev lead_both_far : Var lead_both_T Int := .vs (.vs (.vs (.vs (.vs (.vs .vz)))))
abbrev lead_both_number : Var lead_both_T Int := .vs (.vs (.vs (.vs (.vs (.vs (.vs .vz))))))
abbrev lead_both_G (K : Fr) (C : Nat → Addr) (v0 v1 v2 : V) : RTs K lead_both_T := ((RT.tree K (C 0), ((RT.dat K (List (Int × Int)), ((RT.dat K (Int × Int), ((RT.own K (Int × Int), ((RT.dat K Int, ((RT.dat K (List Int), ((RT.dat K Int, ((RT.dat K Int, ()) : RT K Int × RTs K [])) : RT K Int × RTs K [Int])) : RT K (List Int) × RTs K [Int, Int])) : RT K Int × RTs K [List Int, Int, Int])) : RT K (List (Int × Int)) × RTs K [Int, List Int, Int, Int])) : RT K (Int × Int) × RTs K [List (Int × Int), Int, List Int, Int, Int])) : RT K (List (Int × Int)) × RTs K [(Int × Int), List (Int × Int), Int, List Int, Int, Int])) : RT K TreeD × RTs K [List (Int × Int), (Int × Int), List (Int × Int), Int, List Int, Int, Int])
abbrev lead_both_Gr (K : Fr) (C : Nat → Addr) (v0 v1 v2 : V) : RTs K lead_both_T := ((RT.dead K TreeD, ((RT.dead K (List (Int × Int)), ((RT.dead K (Int × Int), ((RT.dead K (List (Int × Int)), ((RT.dead K Int, ((RT.dead K (List Int), ((RT.dead K Int, ((RT.dead K Int, ()) : RT K Int × RTs K [])) : RT K Int × RTs K [Int])) : RT K (List Int) × RTs K [Int, Int])) : RT K Int × RTs K [List Int, Int, Int])) : RT K (List (Int × Int)) × RTs K [Int, List Int, Int, Int])) : RT K (Int × Int) × RTs K [List (Int × Int), Int, List Int, Int, Int])) : RT K (List (Int × Int)) × RTs K [(Int × Int), List (Int × Int), Int, List Int, Int, Int])) : RT K TreeD × RTs K [List (Int × Int), (Int × Int), List (Int × Int), Int, List Int, Int, Int])
abbrev lead_both_R (K : Fr) (C : Nat → Addr) : RT K (List (Int × Int) × Int) := RT.pairO K (Int × Int) Int
noncomputable def lead_both_m : MS lead_both_T (List (Int × Int) × Int) := (sSeq (sAsg lead_both_led (m1 copyl (mV lead_both_crew)))
  (sSeq (sAsg lead_both_way (mC (0 : Int)))
  (sSeq (sWhile (m2 notin (mV lead_both_call) (mV lead_both_led)) (sSeq (sAsg lead_both_going (mCall (.v (.v (.v .nil))) (bodyF (ps := seers_ps) (ls := seers_ls) seers_m) (aV (mV lead_both_tree) (aV (mV lead_both_led) (aV (mV lead_both_call) aNil)))))
  (sSeq (sAsg lead_both_far (mCall (.v (.v (.v .nil))) (bodyF (ps := next_change_ps) (ls := next_change_ls) next_change_m) (aV (mV lead_both_tree) (aV (mLc (mV lead_both_going) (fun y s => lead_both_number.set (some y) s) (Own.one lead_both_number).rs (mC true) (m2 idx (mV lead_both_led) (mV lead_both_number))) (aV (mV lead_both_call) aNil)))))
  (sSeq (sFor (mV lead_both_going) (fun y s => lead_both_number.set (some y) s) (sSetI lead_both_led (mV lead_both_number) (mCall (.v (.v (.v (.v .nil)))) (bodyF (ps := T_towards_ps) (ls := T_towards_ls) T_towards_m) (aV (mV lead_both_tree) (aV (m2 idx (mV lead_both_led) (mV lead_both_number)) (aV (mV lead_both_call) (aV (mV lead_both_far) aNil)))))))
  (sAug lead_both_way iadd (m2 imul (mV lead_both_far) (m1 ilen (mV lead_both_going))))))))
  (sRet (m2 pair (mV lead_both_led) (mV lead_both_way))))))
noncomputable abbrev lead_both_fs (K : Fr) (C : Nat → Addr) : Fs K := { ps := lead_both_ps, Γp := (((RT.tree K (C 0), ((RT.dat K (List (Int × Int)), ((RT.dat K (Int × Int), ()) : RT K (Int × Int) × RTs K [])) : RT K (List (Int × Int)) × RTs K [(Int × Int)])) : RT K TreeD × RTs K [List (Int × Int), (Int × Int)]) : RTs K lead_both_ps), Γo := (((RT.dead K TreeD, ((RT.dead K (List (Int × Int)), ((RT.dead K (Int × Int), ()) : RT K (Int × Int) × RTs K [])) : RT K (List (Int × Int)) × RTs K [(Int × Int)])) : RT K TreeD × RTs K [List (Int × Int), (Int × Int)]) : RTs K lead_both_ps), ρ := (List (Int × Int) × Int), R := lead_both_R K C, f := (bodyF (ps := lead_both_ps) (ls := lead_both_ls) lead_both_m) }
theorem lead_both_sc : FnScope ["tree", "crew", "call", "led", "way", "going", "far", "number"] ["tree", "crew", "call"] (defScope (topS 8)) := ⟨rfl, rfl, rfl, by decide +kernel, rfl, by decide +kernel, by decide +kernel⟩
theorem lead_both_ok {fa : Addr} {fd : FuncData} (F : Fun K "lead_both" "lead_both" (topS 8) fa fd) (TC0 : TC K (C 0)) (RU : RuA K mg (clsR C)) {a_seers : Addr} {d_seers : FuncData} (G_seers : FnOk Pr w K mg base CX0 9 a_seers d_seers ["tree", "crew", "call"] (spF (seers_fs K C))) (b_seers : Binds K d_seers ["tree", "crew", "call"] []) (g_seers : mg "seers" = some (.ref a_seers)) (k_seers : PySem.W.keepIn K (.ref a_seers) = true) {a_next_change : Addr} {d_next_change : FuncData} (G_next_change : FnOk Pr w K mg base CX0 7 a_next_change d_next_change ["tree", "points", "call"] (spF (next_change_fs K C))) (b_next_change : Binds K d_next_change ["tree", "points", "call"] []) (g_next_change : mg "next_change" = some (.ref a_next_change)) (k_next_change : PySem.W.keepIn K (.ref a_next_change) = true) {a_T_towards : Addr} {d_T_towards : FuncData} (G_T_towards : FnOk Pr w K mg base CX0 7 a_T_towards d_T_towards ["self", "one", "other", "far"] (spF (T_towards_fs K C))) (b_T_towards : Binds K d_T_towards ["self", "one", "other", "far"] []) (h_T_towards : Meth K (C 0) "towards" a_T_towards) (z_list : mg "list" = none) (z_len : mg "len" = none) : FnOk Pr w K mg base CX0 10 fa fd ["tree", "crew", "call"] (spF (lead_both_fs K C)) := by
  refine fs_ok (k := 9) F lead_both_sc (ps := lead_both_ps) (ls := lead_both_ls) (m := lead_both_m) rfl rfl fun cdv A outer s H vs E hl hr => ?_
  obtain ⟨v0, v1, v2, rfl⟩ := len3 hl
  have hu : (A.deeper (PyProof.Rows.envOfC "lead_both" (defScope (topS 8)) s.heap.objs.size fa cdv)).units + 65 < cLine := by have := hr.un; omega
  refine ⟨lead_both_G K C v0 v1 v2, lead_both_Gr K C v0 v1 v2, lead_both_G K C v0 v1 v2, ⟨fun _ _ _ _ _ _ h => h, fun _ _ _ _ _ _ h => h, fun _ _ _ _ _ _ h => h, trivial⟩, ⟨fun _ _ _ _ _ _ _ _ => trivial, fun _ _ _ _ _ _ _ _ => trivial, fun _ _ _ _ _ _ _ _ => trivial, trivial⟩, ?_⟩
  exact (.cons (Γ1 := lead_both_G _ C v0 v1 v2)
    (.asg (x := lead_both_led) (.list (by rfl) z_list (.name (x := lead_both_crew) (pv 1) rfl rfl)) lead_both_sc.nd rfl (.inr rfl))
  (.cons (Γ1 := lead_both_G _ C v0 v1 v2)
    (.asg (x := lead_both_way) .int lead_both_sc.nd rfl (.inl rfl))
  (.cons (Γ1 := lead_both_G _ C v0 v1 v2)
    (.while_ PassesOwn.never (XT.borrow lead_both_led (.ofC (.notin (.name (x := lead_both_call) (pv 2) rfl rfl) (.var (x := lead_both_led) (pv 3) rfl rfl (fun _ _ _ h => h)) hu))) (.cons (Γ1 := lead_both_G _ C v0 v1 v2)
    (.asg (x := lead_both_going) (.dat (.borrow lead_both_led (.call (.v (.v (.v .nil))) G_seers (hr.mono (by decide)) (by rfl) g_seers k_seers b_seers (.v rfl (.name (x := lead_both_tree) (pv 0) rfl rfl) (.v rfl (.var (x := lead_both_led) (pv 3) rfl rfl (fun _ _ _ h => h)) (.v rfl (.name (x := lead_both_call) (pv 2) rfl rfl) XA.nil))) (om := trivial)) (lin_of rfl))) lead_both_sc.nd rfl (.inl rfl))
  (.cons (Γ1 := lead_both_G _ C v0 v1 v2)
    (.asg (x := lead_both_far) (.call (.v (.v (.v .nil))) G_next_change (hr.mono (by decide)) (by rfl) g_next_change k_next_change b_next_change (.v rfl (.name (x := lead_both_tree) (pv 0) rfl rfl) (.v rfl (.dat (.lc (own := [("number", 7)]) rfl lead_both_sc.nd (blkOk_by (N := lead_both_N) (sc := defScope (topS 8)) (by decide +kernel)) (Own.one lead_both_number) (.list (.name (x := lead_both_going) (pv 5) rfl rfl)) (fixAt rfl) (fun _ _ _ => rfl) (fun _ _ _ _ _ => (.name (x := lead_both_number) rfl lead_both_sc.nd rfl (.inl rfl))) (fun _ _ _ _ _ => XTs.nil) (fun _ _ _ _ _ => (.borrow lead_both_led (.idx (.var (x := lead_both_led) (pv 3) rfl rfl (fun _ _ _ h => h)) (.name (x := lead_both_number) (pv 7) rfl rfl)) (lin_dat))))) (.v rfl (.name (x := lead_both_call) (pv 2) rfl rfl) XA.nil))) (om := trivial)) lead_both_sc.nd rfl (.inl rfl))
  (.cons (Γ1 := lead_both_G _ C v0 v1 v2)
    (.for_ PassesOwn.never rfl (.list (.name (x := lead_both_going) (pv 5) rfl rfl)) ⟨.inl rfl, ⟨.inl rfl, ⟨.inl rfl, ⟨.inl rfl, ⟨.inl rfl, ⟨.inl rfl, ⟨.inl rfl, ⟨.inl rfl, trivial⟩⟩⟩⟩⟩⟩⟩⟩ (.name (x := lead_both_number) rfl lead_both_sc.nd rfl (.inl rfl)) (.one (.setI (x := lead_both_led) (pv 3) .refl (.borrow lead_both_led (.meth (.v (.v (.v .nil))) TC0.cl h_T_towards G_T_towards (hr.mono (by decide)) b_T_towards rfl (tree_ins (by decide +kernel) (by decide +kernel) (by decide +kernel)) (.name (x := lead_both_tree) (pv 0) rfl rfl) (.v rfl (.idx (.var (x := lead_both_led) (pv 3) rfl rfl (fun _ _ _ h => h)) (.name (x := lead_both_number) (pv 7) rfl rfl)) (.v rfl (.name (x := lead_both_call) (pv 2) rfl rfl) (.v rfl (.name (x := lead_both_far) (pv 6) rfl rfl) XA.nil))) (om := trivial)) (lin_dat)) (.name (x := lead_both_number) (pv 7) rfl rfl))))
  (.one (.augAdd (x := lead_both_way) rfl (.mul (.name (x := lead_both_far) (pv 6) rfl rfl) (.len (by rfl) z_len (.name (x := lead_both_going) (pv 5) rfl rfl))) lead_both_sc.nd rfl (.inl rfl)))))) ⟨.inl rfl, ⟨.inl rfl, ⟨.inl rfl, ⟨.inl rfl, ⟨.inl rfl, ⟨.inl rfl, ⟨.inl rfl, ⟨.inl rfl, trivial⟩⟩⟩⟩⟩⟩⟩⟩)
  (.one (.retPO (x := lead_both_led) (y := lead_both_way) (pv 3) (pv 4) rfl rfl rfl ⟨.inr rfl, ⟨.inr rfl, ⟨.inr rfl, ⟨.inr rfl, ⟨.inr rfl, ⟨.inr rfl, ⟨.inr rfl, ⟨.inr rfl, trivial⟩⟩⟩⟩⟩⟩⟩⟩)))))
/-! ### lead -/
abbrev lead_N : List Str := ["tree", "rule", "crew", "call"]
abbrev lead_ps : List Type := [TreeD, RuleD, List (Int × Int), (Int × Int)]
abbrev lead_ls : List Type := []
abbrev lead_T : List Type := [TreeD, RuleD, List (Int × Int), (Int × Int)]
abbrev lead_tree : Var lead_T TreeD := .vz
abbrev lead_rule : Var lead_T RuleD := .vs .vz
abbrev lead_crew : Var lead_T (List (Int × Int)) := .vs (.vs .vz)
abbrev lead_call : Var lead_T (Int × Int) := .vs (.vs (.vs .vz))
abbrev lead_G (K : Fr) (C : Nat → Addr) (v0 v1 v2 v3 : V) : RTs K lead_T := ((RT.tree K (C 0), ((RT.rule K (clsR C), ((RT.dat K (List (Int × Int)), ((RT.dat K (Int × Int), ()) : RT K (Int × Int) × RTs K [])) : RT K (List (Int × Int)) × RTs K [(Int × Int)])) : RT K RuleD × RTs K [List (Int × Int), (Int × Int)])) : RT K TreeD × RTs K [RuleD, List (Int × Int), (Int × Int)])
abbrev lead_Gr (K : Fr) (C : Nat → Addr) (v0 v1 v2 v3 : V) : RTs K lead_T := ((RT.dead K TreeD, ((RT.dead K RuleD, ((RT.dead K (List (Int × Int)), ((RT.dead K (Int × Int), ()) : RT K (Int × Int) × RTs K [])) : RT K (List (Int × Int)) × RTs K [(Int × Int)])) : RT K RuleD × RTs K [List (Int × Int), (Int × Int)])) : RT K TreeD × RTs K [RuleD, List (Int × Int), (Int × Int)])
abbrev lead_R (K : Fr) (C : Nat → Addr) : RT K (List (Int × Int) × Int) := RT.pairO K (Int × Int) Int
noncomputable def lead_m : MS lead_T (List (Int × Int) × Int) := (sSeq (sIf (m1 isNear (mV lead_rule)) (sRet (mCall (.v (.v (.v .nil))) (bodyF (ps := lead_nearest_ps) (ls := lead_nearest_ls) lead_nearest_m) (aV (mV lead_tree) (aV (mV lead_crew) (aV (mV lead_call) aNil))))) sSkip)
  (sRet (mCall (.v (.v (.v .nil))) (bodyF (ps := lead_both_ps) (ls := lead_both_ls) lead_both_m) (aV (mV lead_tree) (aV (mV lead_crew) (aV (mV lead_call) aNil))))))
noncomputable abbrev lead_fs (K : Fr) (C : Nat → Addr) : Fs K := { ps := lead_ps, Γp := (((RT.tree K (C 0), ((RT.rule K (clsR C), ((RT.dat K (List (Int × Int)), ((RT.dat K (Int × Int), ()) : RT K (Int × Int) × RTs K [])) : RT K (List (Int × Int)) × RTs K [(Int × Int)])) : RT K RuleD × RTs K [List (Int × Int), (Int × Int)])) : RT K TreeD × RTs K [RuleD, List (Int × Int), (Int × Int)]) : RTs K lead_ps), Γo := (((RT.dead K TreeD, ((RT.dead K RuleD, ((RT.dead K (List (Int × Int)), ((RT.dead K (Int × Int), ()) : RT K (Int × Int) × RTs K [])) : RT K (List (Int × Int)) × RTs K [(Int × Int)])) : RT K RuleD × RTs K [List (Int × Int), (Int × Int)])) : RT K TreeD × RTs K [RuleD, List (Int × Int), (Int × Int)]) : RTs K lead_ps), ρ := (List (Int × Int) × Int), R := lead_R K C, f := (bodyF (ps := lead_ps) (ls := lead_ls) lead_m) }
theorem lead_sc : FnScope ["tree", "rule", "crew", "call"] ["tree", "rule", "crew", "call"] (defScope (topS 9)) := ⟨rfl, rfl, rfl, by decide +kernel, rfl, by decide +kernel, by decide +kernel⟩
theorem lead_ok {fa : Addr} {fd : FuncData} (F : Fun K "lead" "lead" (topS 9) fa fd) (TC0 : TC K (C 0)) (RU : RuA K mg (clsR C)) {a_lead_both : Addr} {d_lead_both : FuncData} (G_lead_both : FnOk Pr w K mg base CX0 10 a_lead_both d_lead_both ["tree", "crew", "call"] (spF (lead_both_fs K C))) (b_lead_both : Binds K d_lead_both ["tree", "crew", "call"] []) (g_lead_both : mg "lead_both" = some (.ref a_lead_both)) (k_lead_both : PySem.W.keepIn K (.ref a_lead_both) = true) {a_lead_nearest : Addr} {d_lead_nearest : FuncData} (G_lead_nearest : FnOk Pr w K mg base CX0 7 a_lead_nearest d_lead_nearest ["tree", "crew", "call"] (spF (lead_nearest_fs K C))) (b_lead_nearest : Binds K d_lead_nearest ["tree", "crew", "call"] []) (g_lead_nearest : mg "lead_nearest" = some (.ref a_lead_nearest)) (k_lead_nearest : PySem.W.keepIn K (.ref a_lead_nearest) = true) (z_isinstance : mg "isinstance" = none) : FnOk Pr w K mg base CX0 11 fa fd ["tree", "rule", "crew", "call"] (spF (lead_fs K C)) := by
  refine fs_ok (k := 10) F lead_sc (ps := lead_ps) (ls := lead_ls) (m := lead_m) rfl rfl fun cdv A outer s H vs E hl hr => ?_
  obtain ⟨v0, v1, v2, v3, rfl⟩ := len4 hl
  have hu : (A.deeper (PyProof.Rows.envOfC "lead" (defScope (topS 9)) s.heap.objs.size fa cdv)).units + 65 < cLine := by have := hr.un; omega
  refine ⟨lead_G K C v0 v1 v2 v3, lead_Gr K C v0 v1 v2 v3, lead_G K C v0 v1 v2 v3, ⟨fun _ _ _ _ _ _ h => h, fun _ _ _ _ _ _ h => h, fun _ _ _ _ _ _ h => h, fun _ _ _ _ _ _ h => h, trivial⟩, ⟨fun _ _ _ _ _ _ _ _ => trivial, fun _ _ _ _ _ _ _ _ => trivial, fun _ _ _ _ _ _ _ _ => trivial, fun _ _ _ _ _ _ _ _ => trivial, trivial⟩, ?_⟩
  exact (.cons (Γ1 := lead_G _ C v0 v1 v2 v3)
    (.ite (.val (.isNear RU rfl (by rfl) z_isinstance (by rfl) (.name (x := lead_rule) (pv 1) rfl rfl))) (.one (.ret (.call (.v (.v (.v .nil))) G_lead_nearest (hr.mono (by decide)) (by rfl) g_lead_nearest k_lead_nearest b_lead_nearest (.v rfl (.name (x := lead_tree) (pv 0) rfl rfl) (.v rfl (.name (x := lead_crew) (pv 2) rfl rfl) (.v rfl (.name (x := lead_call) (pv 3) rfl rfl) XA.nil))) (om := trivial)) ⟨.inr rfl, ⟨.inr rfl, ⟨.inr rfl, ⟨.inr rfl, trivial⟩⟩⟩⟩)) XSs.nil)
  (.one (.ret (.call (.v (.v (.v .nil))) G_lead_both (hr.mono (by decide)) (by rfl) g_lead_both k_lead_both b_lead_both (.v rfl (.name (x := lead_tree) (pv 0) rfl rfl) (.v rfl (.name (x := lead_crew) (pv 2) rfl rfl) (.v rfl (.name (x := lead_call) (pv 3) rfl rfl) XA.nil))) (om := trivial)) ⟨.inr rfl, ⟨.inr rfl, ⟨.inr rfl, ⟨.inr rfl, trivial⟩⟩⟩⟩)))
/-! ### run -/
abbrev run_N : List Str := ["tree", "rule", "crew", "calls", "led", "total", "call", "way"]
abbrev run_ps : List Type := [TreeD, RuleD, List (Int × Int), List (Int × Int)]
abbrev run_ls : List Type := [List (Int × Int), Int, (Int × Int), Int]
abbrev run_T : List Type := [TreeD, RuleD, List (Int × Int), List (Int × Int), List (Int × Int), Int, (Int × Int), Int]
abbrev run_tree : Var run_T TreeD := .vz
abbrev run_rule : Var run_T RuleD := .vs .vz
abbrev run_crew : Var run_T (List (Int × Int)) := .vs (.vs .vz)
abbrev run_calls : Var run_T (List (Int × Int)) := .vs (.vs (.vs .vz))
abbrev run_led : Var run_T (List (Int × Int)) := .vs (.vs (.vs (.vs .vz)))
abbrev run_total : Var run_T Int := .vs (.vs (.vs (.vs (.vs .vz))))
abbrev run_call : Var run_T (Int × Int) := .vs (.vs (.vs (.vs (.vs (.vs .vz)))))
abbrev run_way : Var run_T Int := .vs (.vs (.vs (.vs (.vs (.vs (.vs .vz))))))
abbrev run_G (K : Fr) (C : Nat → Addr) (v0 v1 v2 v3 : V) : RTs K run_T := ((RT.tree K (C 0), ((RT.rule K (clsR C), ((RT.dat K (List (Int × Int)), ((RT.dat K (List (Int × Int)), ((RT.own K (Int × Int), ((RT.dat K Int, ((RT.dat K (Int × Int), ((RT.dat K Int, ()) : RT K Int × RTs K [])) : RT K (Int × Int) × RTs K [Int])) : RT K Int × RTs K [(Int × Int), Int])) : RT K (List (Int × Int)) × RTs K [Int, (Int × Int), Int])) : RT K (List (Int × Int)) × RTs K [List (Int × Int), Int, (Int × Int), Int])) : RT K (List (Int × Int)) × RTs K [List (Int × Int), List (Int × Int), Int, (Int × Int), Int])) : RT K RuleD × RTs K [List (Int × Int), List (Int × Int), List (Int × Int), Int, (Int × Int), Int])) : RT K TreeD × RTs K [RuleD, List (Int × Int), List (Int × Int), List (Int × Int), Int, (Int × Int), Int])
abbrev run_Gr (K : Fr) (C : Nat → Addr) (v0 v1 v2 v3 : V) : RTs K run_T := ((RT.dead K TreeD, ((RT.dead K RuleD, ((RT.dead K (List (Int × Int)), ((RT.dead K (List (Int × Int)), ((RT.dead K (List (Int × Int)), ((RT.dead K Int, ((RT.dead K (Int × Int), ((RT.dead K Int, ()) : RT K Int × RTs K [])) : RT K (Int × Int) × RTs K [Int])) : RT K Int × RTs K [(Int × Int), Int])) : RT K (List (Int × Int)) × RTs K [Int, (Int × Int), Int])) : RT K (List (Int × Int)) × RTs K [List (Int × Int), Int, (Int × Int), Int])) : RT K (List (Int × Int)) × RTs K [List (Int × Int), List (Int × Int), Int, (Int × Int), Int])) : RT K RuleD × RTs K [List (Int × Int), List (Int × Int), List (Int × Int), Int, (Int × Int), Int])) : RT K TreeD × RTs K [RuleD, List (Int × Int), List (Int × Int), List (Int × Int), Int, (Int × Int), Int])
abbrev run_R (K : Fr) (C : Nat → Addr) : RT K (List (Int × Int) × Int) := RT.pairO K (Int × Int) Int
noncomputable def run_m : MS run_T (List (Int × Int) × Int) := (sSeq (sAsg run_led (m1 copyl (mV run_crew)))
  (sSeq (sAsg run_total (mC (0 : Int)))
  (sSeq (sFor (mV run_calls) (fun y s => run_call.set (some y) s) (sSeq (sAsgG (fun z s => run_way.set (some z.2) (run_led.set (some z.1) s)) (mCall (.v (.v (.v (.v .nil)))) (bodyF (ps := lead_ps) (ls := lead_ls) lead_m) (aV (mV run_tree) (aV (mV run_rule) (aV (mV run_led) (aV (mV run_call) aNil))))))
  (sAug run_total iadd (mV run_way))))
  (sRet (m2 pair (mV run_led) (mV run_total))))))
noncomputable abbrev run_fs (K : Fr) (C : Nat → Addr) : Fs K := { ps := run_ps, Γp := (((RT.tree K (C 0), ((RT.rule K (clsR C), ((RT.dat K (List (Int × Int)), ((RT.dat K (List (Int × Int)), ()) : RT K (List (Int × Int)) × RTs K [])) : RT K (List (Int × Int)) × RTs K [List (Int × Int)])) : RT K RuleD × RTs K [List (Int × Int), List (Int × Int)])) : RT K TreeD × RTs K [RuleD, List (Int × Int), List (Int × Int)]) : RTs K run_ps), Γo := (((RT.dead K TreeD, ((RT.dead K RuleD, ((RT.dead K (List (Int × Int)), ((RT.dead K (List (Int × Int)), ()) : RT K (List (Int × Int)) × RTs K [])) : RT K (List (Int × Int)) × RTs K [List (Int × Int)])) : RT K RuleD × RTs K [List (Int × Int), List (Int × Int)])) : RT K TreeD × RTs K [RuleD, List (Int × Int), List (Int × Int)]) : RTs K run_ps), ρ := (List (Int × Int) × Int), R := run_R K C, f := (bodyF (ps := run_ps) (ls := run_ls) run_m) }
theorem run_sc : FnScope ["tree", "rule", "crew", "calls", "led", "total", "call", "way"] ["tree", "rule", "crew", "calls"] (defScope (topS 10)) := ⟨rfl, rfl, rfl, by decide +kernel, rfl, by decide +kernel, by decide +kernel⟩
theorem run_ok {fa : Addr} {fd : FuncData} (F : Fun K "run" "run" (topS 10) fa fd) (TC0 : TC K (C 0)) (RU : RuA K mg (clsR C)) {a_lead : Addr} {d_lead : FuncData} (G_lead : FnOk Pr w K mg base CX0 11 a_lead d_lead ["tree", "rule", "crew", "call"] (spF (lead_fs K C))) (b_lead : Binds K d_lead ["tree", "rule", "crew", "call"] []) (g_lead : mg "lead" = some (.ref a_lead)) (k_lead : PySem.W.keepIn K (.ref a_lead) = true) (z_list : mg "list" = none) : FnOk Pr w K mg base CX0 12 fa fd ["tree", "rule", "crew", "calls"] (spF (run_fs K C)) := by
  refine fs_ok (k := 11) F run_sc (ps := run_ps) (ls := run_ls) (m := run_m) rfl rfl fun cdv A outer s H vs E hl hr => ?_
  obtain ⟨v0, v1, v2, v3, rfl⟩ := len4 hl
  have hu : (A.deeper (PyProof.Rows.envOfC "run" (defScope (topS 10)) s.heap.objs.size fa cdv)).units + 65 < cLine := by have := hr.un; omega
  refine ⟨run_G K C v0 v1 v2 v3, run_Gr K C v0 v1 v2 v3, run_G K C v0 v1 v2 v3, ⟨fun _ _ _ _ _ _ h => h, fun _ _ _ _ _ _ h => h, fun _ _ _ _ _ _ h => h, fun _ _ _ _ _ _ h => h, trivial⟩, ⟨fun _ _ _ _ _ _ _ _ => trivial, fun _ _ _ _ _ _ _ _ => trivial, fun _ _ _ _ _ _ _ _ => trivial, fun _ _ _ _ _ _ _ _ => trivial, trivial⟩, ?_⟩
  exact (.cons (Γ1 := run_G _ C v0 v1 v2 v3)
    (.asg (x := run_led) (.list (by rfl) z_list (.name (x := run_crew) (pv 2) rfl rfl)) run_sc.nd rfl (.inl rfl))
  (.cons (Γ1 := run_G _ C v0 v1 v2 v3)
    (.asg (x := run_total) .int run_sc.nd rfl (.inl rfl))
  (.cons (Γ1 := run_G _ C v0 v1 v2 v3)
    (.for_ PassesOwn.never rfl (.list (.name (x := run_calls) (pv 3) rfl rfl)) ⟨.inl rfl, ⟨.inl rfl, ⟨.inl rfl, ⟨.inl rfl, ⟨.inl rfl, ⟨.inl rfl, ⟨.inl rfl, ⟨.inl rfl, trivial⟩⟩⟩⟩⟩⟩⟩⟩ (.name (x := run_call) rfl run_sc.nd rfl (.inl rfl)) (.cons (Γ1 := run_G _ C v0 v1 v2 v3)
    (.asgPO (x := run_led) (y := run_way) rfl (.borrow run_led (.call (.v (.v (.v (.v .nil)))) G_lead (hr.mono (by decide)) (by rfl) g_lead k_lead b_lead (.v rfl (.name (x := run_tree) (pv 0) rfl rfl) (.v rfl (.name (x := run_rule) (pv 1) rfl rfl) (.v rfl (.var (x := run_led) (pv 4) rfl rfl (fun _ _ _ h => h)) (.v rfl (.name (x := run_call) (pv 6) rfl rfl) XA.nil)))) (om := trivial)) (lin_of rfl)) run_sc.nd rfl (.inl rfl) rfl (.inl rfl) (by decide))
  (.one (.augAdd (x := run_total) rfl (.name (x := run_way) (pv 7) rfl rfl) run_sc.nd rfl (.inl rfl)))))
  (.one (.retPO (x := run_led) (y := run_total) (pv 4) (pv 5) rfl rfl rfl ⟨.inr rfl, ⟨.inr rfl, ⟨.inr rfl, ⟨.inr rfl, ⟨.inr rfl, ⟨.inr rfl, ⟨.inr rfl, ⟨.inr rfl, trivial⟩⟩⟩⟩⟩⟩⟩⟩)))))
/-! ### law -/
abbrev law_N : List Str := ["script", "source", "kind", "many", "cut", "roads", "start", "calls", "tree", "rule", "crew", "total", "call", "whole", "first", "second", "actual", "point"]
abbrev law_ps : List Type := [List Int]
abbrev law_ls : List Type := [List Int, Int, Int, Int, List (Int × Int), List (Int × Int), List (Int × Int), TreeD, RuleD, List (Int × Int), Int, (Int × Int), (List (Int × Int) × Int), (List (Int × Int) × Int), (List (Int × Int) × Int), (List (Int × Int) × Int), (Int × Int)]
abbrev law_T : List Type := [List Int, List Int, Int, Int, Int, List (Int × Int), List (Int × Int), List (Int × Int), TreeD, RuleD, List (Int × Int), Int, (Int × Int), (List (Int × Int) × Int), (List (Int × Int) × Int), (List (Int × Int) × Int), (List (Int × Int) × Int), (Int × Int)]
abbrev law_script : Var law_T (List Int) := .vz
abbrev law_source : Var law_T (List Int) := .vs .vz
abbrev law_kind : Var law_T Int := .vs (.vs .vz)
abbrev law_many : Var law_T Int := .vs (.vs (.vs .vz))
abbrev law_cut : Var law_T Int := .vs (.vs (.vs (.vs .vz)))
abbrev law_roads : Var law_T (List (Int × Int)) := .vs (.vs (.vs (.vs (.vs .vz))))
abbrev law_start : Var law_T (List (Int × Int)) := .vs (.vs (.vs (.vs (.vs (.vs .vz)))))
abbrev law_calls : Var law_T (List (Int × Int)) := .vs (.vs (.vs (.vs (.vs (.vs (.vs .vz))))))
abbrev law_tree : Var law_T TreeD := .vs (.vs (.vs (.vs (.vs (.vs (.vs (.vs .vz)))))))
abbrev law_rule : Var law_T RuleD := .vs (.vs (.vs (.vs (.vs (.vs (.vs (.vs (.vs .vz))))))))
abbrev law_crew : Var law_T (List (Int × Int)) := .vs (.vs (.vs (.vs (.vs (.vs (.vs (.vs (.vs (.vs .vz)))))))))
abbrev law_total : Var law_T Int := .vs (.vs (.vs (.vs (.vs (.vs (.vs (.vs (.vs (.vs (.vs .vz))))))))))
abbrev law_call : Var law_T (Int × Int) := .vs (.vs (.vs (.vs (.vs (.vs (.vs (.vs (.vs (.vs (.vs (.vs .vz)))))))))))
abbrev law_whole : Var law_T (List (Int × Int) × Int) := .vs (.vs (.vs (.vs (.vs (.vs (.vs (.vs (.vs (.vs (.vs (.vs (.vs .vz))))))))))))
abbrev law_first : Var law_T (List (Int × Int) × Int) := .vs (.vs (.vs (.vs (.vs (.vs (.vs (.vs (.vs (.vs (.vs (.vs (.vs (.vs .vz)))))))))))))
abbrev law_second : Var law_T (List (Int × Int) × Int) := .vs (.vs (.vs (.vs (.vs (.vs (.vs (.vs (.vs (.vs (.vs (.vs (.vs (.vs (.vs .vz))))))))))))))
abbrev law_actual : Var law_T (List (Int × Int) × Int) := .vs (.vs (.vs (.vs (.vs (.vs (.vs (.vs (.vs (.vs (.vs (.vs (.vs (.vs (.vs (.vs .vz)))))))))))))))
abbrev law_point : Var law_T (Int × Int) := .vs (.vs (.vs (.vs (.vs (.vs (.vs (.vs (.vs (.vs (.vs (.vs (.vs (.vs (.vs (.vs (.vs .vz))))))))))))))))
abbrev law_G (K : Fr) (C : Nat → Addr) (v0 : V) : RTs K law_T := ((RT.scr K, ((RT.own K Int, ((RT.dat K Int, ((RT.dat K Int, ((RT.dat K Int, ((RT.dat K (List (Int × Int)), ((RT.dat K (List (Int × Int)), ((RT.dat K (List (Int × Int)), ((RT.tree K (C 0), ((RT.rule K (clsR C), ((RT.dat K (List (Int × Int)), ((RT.dat K Int, ((RT.dat K (Int × Int), ((RT.dat K (List (Int × Int) × Int), ((RT.dat K (List (Int × Int) × Int), ((RT.dat K (List (Int × Int) × Int), ((RT.dat K (List (Int × Int) × Int), ((RT.dat K (Int × Int), ()) : RT K (Int × Int) × RTs K [])) : RT K (List (Int × Int) × Int) × RTs K [(Int × Int)])) : RT K (List (Int × Int) × Int) × RTs K [(List (Int × Int) × Int), (Int × Int)])) : RT K (List (Int × Int) × Int) × RTs K [(List (Int × Int) × Int), (List (Int × Int) × Int), (Int × Int)])) : RT K (List (Int × Int) × Int) × RTs K [(List (Int × Int) × Int), (List (Int × Int) × Int), (List (Int × Int) × Int), (Int × Int)])) : RT K (Int × Int) × RTs K [(List (Int × Int) × Int), (List (Int × Int) × Int), (List (Int × Int) × Int), (List (Int × Int) × Int), (Int × Int)])) : RT K Int × RTs K [(Int × Int), (List (Int × Int) × Int), (List (Int × Int) × Int), (List (Int × Int) × Int), (List (Int × Int) × Int), (Int × Int)])) : RT K (List (Int × Int)) × RTs K [Int, (Int × Int), (List (Int × Int) × Int), (List (Int × Int) × Int), (List (Int × Int) × Int), (List (Int × Int) × Int), (Int × Int)])) : RT K RuleD × RTs K [List (Int × Int), Int, (Int × Int), (List (Int × Int) × Int), (List (Int × Int) × Int), (List (Int × Int) × Int), (List (Int × Int) × Int), (Int × Int)])) : RT K TreeD × RTs K [RuleD, List (Int × Int), Int, (Int × Int), (List (Int × Int) × Int), (List (Int × Int) × Int), (List (Int × Int) × Int), (List (Int × Int) × Int), (Int × Int)])) : RT K (List (Int × Int)) × RTs K [TreeD, RuleD, List (Int × Int), Int, (Int × Int), (List (Int × Int) × Int), (List (Int × Int) × Int), (List (Int × Int) × Int), (List (Int × Int) × Int), (Int × Int)])) : RT K (List (Int × Int)) × RTs K [List (Int × Int), TreeD, RuleD, List (Int × Int), Int, (Int × Int), (List (Int × Int) × Int), (List (Int × Int) × Int), (List (Int × Int) × Int), (List (Int × Int) × Int), (Int × Int)])) : RT K (List (Int × Int)) × RTs K [List (Int × Int), List (Int × Int), TreeD, RuleD, List (Int × Int), Int, (Int × Int), (List (Int × Int) × Int), (List (Int × Int) × Int), (List (Int × Int) × Int), (List (Int × Int) × Int), (Int × Int)])) : RT K Int × RTs K [List (Int × Int), List (Int × Int), List (Int × Int), TreeD, RuleD, List (Int × Int), Int, (Int × Int), (List (Int × Int) × Int), (List (Int × Int) × Int), (List (Int × Int) × Int), (List (Int × Int) × Int), (Int × Int)])) : RT K Int × RTs K [Int, List (Int × Int), List (Int × Int), List (Int × Int), TreeD, RuleD, List (Int × Int), Int, (Int × Int), (List (Int × Int) × Int), (List (Int × Int) × Int), (List (Int × Int) × Int), (List (Int × Int) × Int), (Int × Int)])) : RT K Int × RTs K [Int, Int, List (Int × Int), List (Int × Int), List (Int × Int), TreeD, RuleD, List (Int × Int), Int, (Int × Int), (List (Int × Int) × Int), (List (Int × Int) × Int), (List (Int × Int) × Int), (List (Int × Int) × Int), (Int × Int)])) : RT K (List Int) × RTs K [Int, Int, Int, List (Int × Int), List (Int × Int), List (Int × Int), TreeD, RuleD, List (Int × Int), Int, (Int × Int), (List (Int × Int) × Int), (List (Int × Int) × Int), (List (Int × Int) × Int), (List (Int × Int) × Int), (Int × Int)])) : RT K (List Int) × RTs K [List Int, Int, Int, Int, List (Int × Int), List (Int × Int), List (Int × Int), TreeD, RuleD, List (Int × Int), Int, (Int × Int), (List (Int × Int) × Int), (List (Int × Int) × Int), (List (Int × Int) × Int), (List (Int × Int) × Int), (Int × Int)])
abbrev law_Gr (K : Fr) (C : Nat → Addr) (v0 : V) : RTs K law_T := ((RT.dead K (List Int), ((RT.dead K (List Int), ((RT.dead K Int, ((RT.dead K Int, ((RT.dead K Int, ((RT.dead K (List (Int × Int)), ((RT.dead K (List (Int × Int)), ((RT.dead K (List (Int × Int)), ((RT.dead K TreeD, ((RT.dead K RuleD, ((RT.dead K (List (Int × Int)), ((RT.dead K Int, ((RT.dead K (Int × Int), ((RT.dead K (List (Int × Int) × Int), ((RT.dead K (List (Int × Int) × Int), ((RT.dead K (List (Int × Int) × Int), ((RT.dead K (List (Int × Int) × Int), ((RT.dead K (Int × Int), ()) : RT K (Int × Int) × RTs K [])) : RT K (List (Int × Int) × Int) × RTs K [(Int × Int)])) : RT K (List (Int × Int) × Int) × RTs K [(List (Int × Int) × Int), (Int × Int)])) : RT K (List (Int × Int) × Int) × RTs K [(List (Int × Int) × Int), (List (Int × Int) × Int), (Int × Int)])) : RT K (List (Int × Int) × Int) × RTs K [(List (Int × Int) × Int), (List (Int × Int) × Int), (List (Int × Int) × Int), (Int × Int)])) : RT K (Int × Int) × RTs K [(List (Int × Int) × Int), (List (Int × Int) × Int), (List (Int × Int) × Int), (List (Int × Int) × Int), (Int × Int)])) : RT K Int × RTs K [(Int × Int), (List (Int × Int) × Int), (List (Int × Int) × Int), (List (Int × Int) × Int), (List (Int × Int) × Int), (Int × Int)])) : RT K (List (Int × Int)) × RTs K [Int, (Int × Int), (List (Int × Int) × Int), (List (Int × Int) × Int), (List (Int × Int) × Int), (List (Int × Int) × Int), (Int × Int)])) : RT K RuleD × RTs K [List (Int × Int), Int, (Int × Int), (List (Int × Int) × Int), (List (Int × Int) × Int), (List (Int × Int) × Int), (List (Int × Int) × Int), (Int × Int)])) : RT K TreeD × RTs K [RuleD, List (Int × Int), Int, (Int × Int), (List (Int × Int) × Int), (List (Int × Int) × Int), (List (Int × Int) × Int), (List (Int × Int) × Int), (Int × Int)])) : RT K (List (Int × Int)) × RTs K [TreeD, RuleD, List (Int × Int), Int, (Int × Int), (List (Int × Int) × Int), (List (Int × Int) × Int), (List (Int × Int) × Int), (List (Int × Int) × Int), (Int × Int)])) : RT K (List (Int × Int)) × RTs K [List (Int × Int), TreeD, RuleD, List (Int × Int), Int, (Int × Int), (List (Int × Int) × Int), (List (Int × Int) × Int), (List (Int × Int) × Int), (List (Int × Int) × Int), (Int × Int)])) : RT K (List (Int × Int)) × RTs K [List (Int × Int), List (Int × Int), TreeD, RuleD, List (Int × Int), Int, (Int × Int), (List (Int × Int) × Int), (List (Int × Int) × Int), (List (Int × Int) × Int), (List (Int × Int) × Int), (Int × Int)])) : RT K Int × RTs K [List (Int × Int), List (Int × Int), List (Int × Int), TreeD, RuleD, List (Int × Int), Int, (Int × Int), (List (Int × Int) × Int), (List (Int × Int) × Int), (List (Int × Int) × Int), (List (Int × Int) × Int), (Int × Int)])) : RT K Int × RTs K [Int, List (Int × Int), List (Int × Int), List (Int × Int), TreeD, RuleD, List (Int × Int), Int, (Int × Int), (List (Int × Int) × Int), (List (Int × Int) × Int), (List (Int × Int) × Int), (List (Int × Int) × Int), (Int × Int)])) : RT K Int × RTs K [Int, Int, List (Int × Int), List (Int × Int), List (Int × Int), TreeD, RuleD, List (Int × Int), Int, (Int × Int), (List (Int × Int) × Int), (List (Int × Int) × Int), (List (Int × Int) × Int), (List (Int × Int) × Int), (Int × Int)])) : RT K (List Int) × RTs K [Int, Int, Int, List (Int × Int), List (Int × Int), List (Int × Int), TreeD, RuleD, List (Int × Int), Int, (Int × Int), (List (Int × Int) × Int), (List (Int × Int) × Int), (List (Int × Int) × Int), (List (Int × Int) × Int), (Int × Int)])) : RT K (List Int) × RTs K [List Int, Int, Int, Int, List (Int × Int), List (Int × Int), List (Int × Int), TreeD, RuleD, List (Int × Int), Int, (Int × Int), (List (Int × Int) × Int), (List (Int × Int) × Int), (List (Int × Int) × Int), (List (Int × Int) × Int), (Int × Int)])
abbrev law_R (K : Fr) (C : Nat → Addr) : RT K Bool := RT.dat K Bool
noncomputable def law_m : MS law_T Bool := (sSeq (sAsg law_source (mCall (.v .nil) (bodyF (ps := l_source_ps) (ls := l_source_ls) l_source_m) (aV (mV law_script) aNil)))
  (sSeq (sAsg law_kind (mCall (.m law_source (.v .nil)) (bodyF (ps := l_pick_ps) (ls := l_pick_ls) l_pick_m) (aM law_source (aV (mC (2 : Int)) aNil))))
  (sSeq (sAsg law_many (mCall (.m law_source (.v .nil)) (bodyF (ps := l_pick_ps) (ls := l_pick_ls) l_pick_m) (aM law_source (aV (mC (13 : Int)) aNil))))
  (sSeq (sIf (m2 ieq (mCall (.m law_source (.v .nil)) (bodyF (ps := l_pick_ps) (ls := l_pick_ls) l_pick_m) (aM law_source (aV (mC (8 : Int)) aNil))) (mC (7 : Int))) (sAsg law_many (mC (40 : Int))) sSkip)
  (sSeq (sAsg law_cut (mCall (.m law_source (.v .nil)) (bodyF (ps := l_pick_ps) (ls := l_pick_ls) l_pick_m) (aM law_source (aV (m2 iadd (mV law_many) (mC (1 : Int))) aNil))))
  (sSeq (sAsg law_roads (mCall (.m law_source (.v .nil)) (bodyF (ps := l_roads_ps) (ls := l_roads_ls) l_roads_m) (aM law_source (aV (mC (0 : Int)) aNil))))
  (sSeq (sAsg law_start (mCall (.m law_source (.v (.v .nil))) (bodyF (ps := l_helpers_ps) (ls := l_helpers_ls) l_helpers_m) (aM law_source (aV (mV law_roads) (aV (m2 iadd (mC (1 : Int)) (mCall (.m law_source (.v .nil)) (bodyF (ps := l_pick_ps) (ls := l_pick_ls) l_pick_m) (aM law_source (aV (mC (4 : Int)) aNil)))) aNil)))))
  (sSeq (sAsg law_calls (mCall (.m law_source (.v (.v (.v .nil)))) (bodyF (ps := l_calls_ps) (ls := l_calls_ls) l_calls_m) (aM law_source (aV (mV law_roads) (aV (mV law_start) (aV (mV law_many) aNil))))))
  (sSeq (sAsg law_tree (m1 idO (mMake none (bodyN (ps := T_init_ps) (ls := T_init_ls) T_init_m) (aV (m1 copyl (mV law_roads)) aNil))))
  (sSeq (sAsg law_rule (mC RuleD.both))
  (sSeq (sIf (m2 ieq (mV law_kind) (mC (1 : Int))) (sAsg law_rule (mC RuleD.near)) sSkip)
  (sSeq (sAsg law_crew (m1 copyl (mV law_start)))
  (sSeq (sAsg law_total (mC (0 : Int)))
  (sSeq (sFor (mV law_calls) (fun y s => law_call.set (some y) s) (sSeq (sAsg law_actual (mCall (.v (.v (.v (.v .nil)))) (bodyF (ps := lead_ps) (ls := lead_ls) lead_m) (aV (mV law_tree) (aV (mV law_rule) (aV (m1 copyl (mV law_crew)) (aV (mV law_call) aNil))))))
  (sSeq (sIf (m1 bnot (mCall (.v (.v (.v (.v (.v .nil))))) (bodyF (ps := l_led_ps) (ls := l_led_ls) l_led_m) (aV (mV law_roads) (aV (mV law_kind) (aV (mV law_crew) (aV (mV law_call) (aV (mV law_actual) aNil))))))) (sRet (mC false)) sSkip)
  (sSeq (sAsg law_crew (mLc (m1 fst' (mV law_actual)) (fun y s => law_point.set (some y) s) (Own.one law_point).rs (mC true) (m2 pair (m1 fst' (mV law_point)) (m1 snd' (mV law_point)))))
  (sAsg law_total (m2 iadd (mV law_total) (m1 snd' (mV law_actual))))))))
  (sSeq (sAsg law_whole (mCall (.v (.v (.v (.v .nil)))) (bodyF (ps := run_ps) (ls := run_ls) run_m) (aV (mV law_tree) (aV (mV law_rule) (aV (m1 copyl (mV law_start)) (aV (m1 copyl (mV law_calls)) aNil))))))
  (sSeq (sIf (mOr (m1 bnot (mCall (.v (.v (.v .nil))) (bodyF (ps := l_is_pair_ps) (ls := l_is_pair_ls) l_is_pair_m) (aV (mV law_roads) (aV (mV law_whole) (aV (m1 ilen (mV law_start)) aNil))))) (mOr (m2 ine (m1 fst' (mV law_whole)) (mV law_crew)) (m2 ine (m1 snd' (mV law_whole)) (mV law_total)))) (sRet (mC false)) sSkip)
  (sSeq (sAsg law_first (mCall (.v (.v (.v (.v .nil)))) (bodyF (ps := run_ps) (ls := run_ls) run_m) (aV (mV law_tree) (aV (mV law_rule) (aV (m1 copyl (mV law_start)) (aV (m2 slcB (mV law_calls) (mV law_cut)) aNil))))))
  (sSeq (sIf (m1 bnot (mCall (.v (.v (.v .nil))) (bodyF (ps := l_is_pair_ps) (ls := l_is_pair_ls) l_is_pair_m) (aV (mV law_roads) (aV (mV law_first) (aV (m1 ilen (mV law_start)) aNil))))) (sRet (mC false)) sSkip)
  (sSeq (sAsg law_second (mCall (.v (.v (.v (.v .nil)))) (bodyF (ps := run_ps) (ls := run_ls) run_m) (aV (mV law_tree) (aV (mV law_rule) (aV (m1 copyl (m1 fst' (mV law_first))) (aV (m2 slcA (mV law_calls) (mV law_cut)) aNil))))))
  (sSeq (sIf (m1 bnot (mCall (.v (.v (.v .nil))) (bodyF (ps := l_is_pair_ps) (ls := l_is_pair_ls) l_is_pair_m) (aV (mV law_roads) (aV (mV law_second) (aV (m1 ilen (mV law_start)) aNil))))) (sRet (mC false)) sSkip)
  (sRet (mAnd (m2 ieq (m1 fst' (mV law_second)) (mV law_crew)) (m2 ieq (m2 iadd (m1 snd' (mV law_first)) (m1 snd' (mV law_second))) (mV law_total))))))))))))))))))))))))
noncomputable abbrev law_fs (K : Fr) (C : Nat → Addr) : Fs K := { ps := law_ps, Γp := (((RT.scr K, ()) : RT K (List Int) × RTs K []) : RTs K law_ps), Γo := (((RT.dead K (List Int), ()) : RT K (List Int) × RTs K []) : RTs K law_ps), ρ := Bool, R := law_R K C, f := (bodyF (ps := law_ps) (ls := law_ls) law_m) }
theorem law_sc : FnScope ["script", "source", "kind", "many", "cut", "roads", "start", "calls", "tree", "rule", "crew", "total", "call", "whole", "first", "second", "actual", "point"] ["script"] (defScope (topS 34)) := ⟨rfl, rfl, rfl, by decide +kernel, rfl, by decide +kernel, by decide +kernel⟩
theorem law_ok {fa : Addr} {fd : FuncData} (F : Fun K "law" "law" (topS 34) fa fd) (TC0 : TC K (C 0)) (RU : RuA K mg (clsR C)) {a_l_source : Addr} {d_l_source : FuncData} (G_l_source : FnOk Pr w K mg base CX0 2 a_l_source d_l_source ["script"] (spF (l_source_fs K C))) (b_l_source : Binds K d_l_source ["script"] []) (g_l_source : mg "_law_source" = some (.ref a_l_source)) (k_l_source : PySem.W.keepIn K (.ref a_l_source) = true) {a_l_pick : Addr} {d_l_pick : FuncData} (G_l_pick : FnOk Pr w K mg base CX0 1 a_l_pick d_l_pick ["source", "size"] (spF (l_pick_fs K C))) (b_l_pick : Binds K d_l_pick ["source", "size"] []) (g_l_pick : mg "_law_pick" = some (.ref a_l_pick)) (k_l_pick : PySem.W.keepIn K (.ref a_l_pick) = true) {a_l_roads : Addr} {d_l_roads : FuncData} (G_l_roads : FnOk Pr w K mg base CX0 2 a_l_roads d_l_roads ["source", "least"] (spF (l_roads_fs K C))) (b_l_roads : Binds K d_l_roads ["source", "least"] []) (g_l_roads : mg "_law_roads" = some (.ref a_l_roads)) (k_l_roads : PySem.W.keepIn K (.ref a_l_roads) = true) {a_l_helpers : Addr} {d_l_helpers : FuncData} (G_l_helpers : FnOk Pr w K mg base CX0 3 a_l_helpers d_l_helpers ["source", "roads", "many"] (spF (l_helpers_fs K C))) (b_l_helpers : Binds K d_l_helpers ["source", "roads", "many"] []) (g_l_helpers : mg "_law_helpers" = some (.ref a_l_helpers)) (k_l_helpers : PySem.W.keepIn K (.ref a_l_helpers) = true) {a_l_calls : Addr} {d_l_calls : FuncData} (G_l_calls : FnOk Pr w K mg base CX0 3 a_l_calls d_l_calls ["source", "roads", "crew", "many"] (spF (l_calls_fs K C))) (b_l_calls : Binds K d_l_calls ["source", "roads", "crew", "many"] []) (g_l_calls : mg "_law_calls" = some (.ref a_l_calls)) (k_l_calls : PySem.W.keepIn K (.ref a_l_calls) = true) {a_T_init : Addr} {d_T_init : FuncData} (G_T_init : FnOk Pr w K mg base CX0 3 a_T_init d_T_init ["self", "roads"] (spF (T_init_fs K C))) (b_T_init : Binds K d_T_init ["self", "roads"] []) (h_T_init : Mk K (C 0) a_T_init) (g_T_init : mg "Tree" = some (.ref (C 0))) {a_run : Addr} {d_run : FuncData} (G_run : FnOk Pr w K mg base CX0 12 a_run d_run ["tree", "rule", "crew", "calls"] (spF (run_fs K C))) (b_run : Binds K d_run ["tree", "rule", "crew", "calls"] []) (g_run : mg "run" = some (.ref a_run)) (k_run : PySem.W.keepIn K (.ref a_run) = true) {a_lead : Addr} {d_lead : FuncData} (G_lead : FnOk Pr w K mg base CX0 11 a_lead d_lead ["tree", "rule", "crew", "call"] (spF (lead_fs K C))) (b_lead : Binds K d_lead ["tree", "rule", "crew", "call"] []) (g_lead : mg "lead" = some (.ref a_lead)) (k_lead : PySem.W.keepIn K (.ref a_lead) = true) {a_l_is_pair : Addr} {d_l_is_pair : FuncData} (G_l_is_pair : FnOk Pr w K mg base CX0 4 a_l_is_pair d_l_is_pair ["roads", "actual", "many"] (spF (l_is_pair_fs K C))) (b_l_is_pair : Binds K d_l_is_pair ["roads", "actual", "many"] []) (g_l_is_pair : mg "_law_is_pair" = some (.ref a_l_is_pair)) (k_l_is_pair : PySem.W.keepIn K (.ref a_l_is_pair) = true) {a_l_led : Addr} {d_l_led : FuncData} (G_l_led : FnOk Pr w K mg base CX0 5 a_l_led d_l_led ["roads", "kind", "crew", "call", "actual"] (spF (l_led_fs K C))) (b_l_led : Binds K d_l_led ["roads", "kind", "crew", "call", "actual"] []) (g_l_led : mg "_law_led" = some (.ref a_l_led)) (k_l_led : PySem.W.keepIn K (.ref a_l_led) = true) (z_list : mg "list" = none) (z_len : mg "len" = none) : FnOk Pr w K mg base CX0 13 fa fd ["script"] (spF (law_fs K C)) := by
  refine fs_ok (k := 12) F law_sc (ps := law_ps) (ls := law_ls) (m := law_m) rfl rfl fun cdv A outer s H vs E hl hr => ?_
  obtain ⟨v0, rfl⟩ := len1 hl
  have hu : (A.deeper (PyProof.Rows.envOfC "law" (defScope (topS 34)) s.heap.objs.size fa cdv)).units + 65 < cLine := by have := hr.un; omega
  refine ⟨law_G K C v0, law_Gr K C v0, law_G K C v0, ⟨fun _ _ _ _ _ _ h => h, trivial⟩, ⟨fun _ _ _ _ _ _ _ _ => trivial, trivial⟩, ?_⟩
  exact (.cons (Γ1 := law_G _ C v0)
    (.asg (x := law_source) (.call (.v .nil) G_l_source (hr.mono (by decide)) (by rfl) g_l_source k_l_source b_l_source (.v rfl (.name (x := law_script) (pv 0) rfl rfl) XA.nil) (om := trivial)) law_sc.nd rfl (.inl rfl))
  (.cons (Γ1 := law_G _ C v0)
    (.asg (x := law_kind) (.call (.m law_source (.v .nil)) G_l_pick (hr.mono (by decide)) (by rfl) g_l_pick k_l_pick b_l_pick (.m (x := law_source) (pv 1) .refl rfl (.v rfl .int XA.nil)) (om := ⟨rfl, trivial⟩)) law_sc.nd rfl (.inl rfl))
  (.cons (Γ1 := law_G _ C v0)
    (.asg (x := law_many) (.call (.m law_source (.v .nil)) G_l_pick (hr.mono (by decide)) (by rfl) g_l_pick k_l_pick b_l_pick (.m (x := law_source) (pv 1) .refl rfl (.v rfl .int XA.nil)) (om := ⟨rfl, trivial⟩)) law_sc.nd rfl (.inl rfl))
  (.cons (Γ1 := law_G _ C v0)
    (.ite (.ofC (.eq (.call (.m law_source (.v .nil)) G_l_pick (hr.mono (by decide)) (by rfl) g_l_pick k_l_pick b_l_pick (.m (x := law_source) (pv 1) .refl rfl (.v rfl .int XA.nil)) (om := ⟨rfl, trivial⟩)) .int hu)) (.one (.asg (x := law_many) .int law_sc.nd rfl (.inl rfl))) XSs.nil)
  (.cons (Γ1 := law_G _ C v0)
    (.asg (x := law_cut) (.call (.m law_source (.v .nil)) G_l_pick (hr.mono (by decide)) (by rfl) g_l_pick k_l_pick b_l_pick (.m (x := law_source) (pv 1) .refl rfl (.v rfl (.add (.name (x := law_many) (pv 3) rfl rfl) .int) XA.nil)) (om := ⟨rfl, trivial⟩)) law_sc.nd rfl (.inl rfl))
  (.cons (Γ1 := law_G _ C v0)
    (.asg (x := law_roads) (.dat (.call (.m law_source (.v .nil)) G_l_roads (hr.mono (by decide)) (by rfl) g_l_roads k_l_roads b_l_roads (.m (x := law_source) (pv 1) .refl rfl (.v rfl .int XA.nil)) (om := ⟨rfl, trivial⟩))) law_sc.nd rfl (.inl rfl))
  (.cons (Γ1 := law_G _ C v0)
    (.asg (x := law_start) (.dat (.call (.m law_source (.v (.v .nil))) G_l_helpers (hr.mono (by decide)) (by rfl) g_l_helpers k_l_helpers b_l_helpers (.m (x := law_source) (pv 1) .refl rfl (.v rfl (.name (x := law_roads) (pv 5) rfl rfl) (.v rfl (.add .int (.call (.m law_source (.v .nil)) G_l_pick (hr.mono (by decide)) (by rfl) g_l_pick k_l_pick b_l_pick (.m (x := law_source) (pv 1) .refl rfl (.v rfl .int XA.nil)) (om := ⟨rfl, trivial⟩))) XA.nil))) (om := ⟨rfl, trivial⟩))) law_sc.nd rfl (.inl rfl))
  (.cons (Γ1 := law_G _ C v0)
    (.asg (x := law_calls) (.dat (.call (.m law_source (.v (.v (.v .nil)))) G_l_calls (hr.mono (by decide)) (by rfl) g_l_calls k_l_calls b_l_calls (.m (x := law_source) (pv 1) .refl rfl (.v rfl (.name (x := law_roads) (pv 5) rfl rfl) (.v rfl (.name (x := law_start) (pv 6) rfl rfl) (.v rfl (.name (x := law_many) (pv 3) rfl rfl) XA.nil)))) (om := ⟨rfl, trivial⟩))) law_sc.nd rfl (.inl rfl))
  (.cons (Γ1 := law_G _ C v0)
    (.asg (x := law_tree) (.tree (.make tm_new h_T_init G_T_init (hr.mono (by decide)) (by rfl) g_T_init b_T_init (.v rfl (.dat (.list (by rfl) z_list (.name (x := law_roads) (pv 5) rfl rfl))) XA.nil))) law_sc.nd rfl (.inl rfl))
  (.cons (Γ1 := law_G _ C v0)
    (.asg (x := law_rule) (.mkRule .both RU rfl (by rfl)) law_sc.nd rfl (.inl rfl))
  (.cons (Γ1 := law_G _ C v0)
    (.ite (.ofC (.eq (.name (x := law_kind) (pv 2) rfl rfl) .int hu)) (.one (.asg (x := law_rule) (.mkRule .near RU rfl (by rfl)) law_sc.nd rfl (.inl rfl))) XSs.nil)
  (.cons (Γ1 := law_G _ C v0)
    (.asg (x := law_crew) (.dat (.list (by rfl) z_list (.name (x := law_start) (pv 6) rfl rfl))) law_sc.nd rfl (.inl rfl))
  (.cons (Γ1 := law_G _ C v0)
    (.asg (x := law_total) .int law_sc.nd rfl (.inl rfl))
  (.cons (Γ1 := law_G _ C v0)
    (.for_ PassesOwn.never rfl (.list (.name (x := law_calls) (pv 7) rfl rfl)) ⟨.inl rfl, ⟨.inl rfl, ⟨.inl rfl, ⟨.inl rfl, ⟨.inl rfl, ⟨.inl rfl, ⟨.inl rfl, ⟨.inl rfl, ⟨.inl rfl, ⟨.inl rfl, ⟨.inl rfl, ⟨.inl rfl, ⟨.inl rfl, ⟨.inl rfl, ⟨.inl rfl, ⟨.inl rfl, ⟨.inl rfl, ⟨.inl rfl, trivial⟩⟩⟩⟩⟩⟩⟩⟩⟩⟩⟩⟩⟩⟩⟩⟩⟩⟩ (.name (x := law_call) rfl law_sc.nd rfl (.inl rfl)) (.cons (Γ1 := law_G _ C v0)
    (.asg (x := law_actual) (.datPO (.call (.v (.v (.v (.v .nil)))) G_lead (hr.mono (by decide)) (by rfl) g_lead k_lead b_lead (.v rfl (.name (x := law_tree) (pv 8) rfl rfl) (.v rfl (.name (x := law_rule) (pv 9) rfl rfl) (.v rfl (.dat (.list (by rfl) z_list (.name (x := law_crew) (pv 10) rfl rfl))) (.v rfl (.name (x := law_call) (pv 12) rfl rfl) XA.nil)))) (om := trivial))) law_sc.nd rfl (.inl rfl))
  (.cons (Γ1 := law_G _ C v0)
    (.ite (.not (.val (.call (.v (.v (.v (.v (.v .nil))))) G_l_led (hr.mono (by decide)) (by rfl) g_l_led k_l_led b_l_led (.v rfl (.name (x := law_roads) (pv 5) rfl rfl) (.v rfl (.name (x := law_kind) (pv 2) rfl rfl) (.v rfl (.name (x := law_crew) (pv 10) rfl rfl) (.v rfl (.name (x := law_call) (pv 12) rfl rfl) (.v rfl (.name (x := law_actual) (pv 16) rfl rfl) XA.nil))))) (om := trivial)))) (.one (.ret .bl ⟨.inr rfl, ⟨.inr rfl, ⟨.inr rfl, ⟨.inr rfl, ⟨.inr rfl, ⟨.inr rfl, ⟨.inr rfl, ⟨.inr rfl, ⟨.inr rfl, ⟨.inr rfl, ⟨.inr rfl, ⟨.inr rfl, ⟨.inr rfl, ⟨.inr rfl, ⟨.inr rfl, ⟨.inr rfl, ⟨.inr rfl, ⟨.inr rfl, trivial⟩⟩⟩⟩⟩⟩⟩⟩⟩⟩⟩⟩⟩⟩⟩⟩⟩⟩)) XSs.nil)
  (.cons (Γ1 := law_G _ C v0)
    (.asgLcG (z := law_crew) (Γb := (law_G _ C v0)) (own := [("point", 17)]) rfl law_sc.nd (blkOk_by (N := law_N) (sc := defScope (topS 34)) (by decide +kernel)) (Own.one law_point) rfl rfl (sw_true rfl rfl rfl (by decide +kernel)) (.list (.fst (.name (x := law_actual) (pv 16) rfl rfl))) (fixAt rfl) (fun _ _ _ => rfl) (fun _ _ _ _ _ => (.name (x := law_point) rfl law_sc.nd rfl (.inl rfl))) (fun _ _ _ _ _ => XTs.nil) (fun _ _ _ _ _ => (.pair (.fst (.name (x := law_point) (pv 17) rfl rfl)) (.snd (.name (x := law_point) (pv 17) rfl rfl)))) (tr := fun t h => (XV.dat h)))
  (.one (.asg (x := law_total) (.add (.name (x := law_total) (pv 11) rfl rfl) (.snd (.name (x := law_actual) (pv 16) rfl rfl))) law_sc.nd rfl (.inl rfl)))))))
  (.cons (Γ1 := law_G _ C v0)
    (.asg (x := law_whole) (.datPO (.call (.v (.v (.v (.v .nil)))) G_run (hr.mono (by decide)) (by rfl) g_run k_run b_run (.v rfl (.name (x := law_tree) (pv 8) rfl rfl) (.v rfl (.name (x := law_rule) (pv 9) rfl rfl) (.v rfl (.dat (.list (by rfl) z_list (.name (x := law_start) (pv 6) rfl rfl))) (.v rfl (.dat (.list (by rfl) z_list (.name (x := law_calls) (pv 7) rfl rfl))) XA.nil)))) (om := trivial))) law_sc.nd rfl (.inl rfl))
  (.cons (Γ1 := law_G _ C v0)
    (.ite (.ofW (.or (.not (.val (.call (.v (.v (.v .nil))) G_l_is_pair (hr.mono (by decide)) (by rfl) g_l_is_pair k_l_is_pair b_l_is_pair (.v rfl (.name (x := law_roads) (pv 5) rfl rfl) (.v rfl (.name (x := law_whole) (pv 13) rfl rfl) (.v rfl (.len (by rfl) z_len (.name (x := law_start) (pv 6) rfl rfl)) XA.nil))) (om := trivial)))) (.or (.ofC (.ne (.fst (.name (x := law_whole) (pv 13) rfl rfl)) (.name (x := law_crew) (pv 10) rfl rfl) hu)) (.or1 (.ofC (.ne (.snd (.name (x := law_whole) (pv 13) rfl rfl)) (.name (x := law_total) (pv 11) rfl rfl) hu)))))) (.one (.ret .bl ⟨.inr rfl, ⟨.inr rfl, ⟨.inr rfl, ⟨.inr rfl, ⟨.inr rfl, ⟨.inr rfl, ⟨.inr rfl, ⟨.inr rfl, ⟨.inr rfl, ⟨.inr rfl, ⟨.inr rfl, ⟨.inr rfl, ⟨.inr rfl, ⟨.inr rfl, ⟨.inr rfl, ⟨.inr rfl, ⟨.inr rfl, ⟨.inr rfl, trivial⟩⟩⟩⟩⟩⟩⟩⟩⟩⟩⟩⟩⟩⟩⟩⟩⟩⟩)) XSs.nil)
  (.cons (Γ1 := law_G _ C v0)
    (.asg (x := law_first) (.datPO (.call (.v (.v (.v (.v .nil)))) G_run (hr.mono (by decide)) (by rfl) g_run k_run b_run (.v rfl (.name (x := law_tree) (pv 8) rfl rfl) (.v rfl (.name (x := law_rule) (pv 9) rfl rfl) (.v rfl (.dat (.list (by rfl) z_list (.name (x := law_start) (pv 6) rfl rfl))) (.v rfl (.dat (.slB (.name (x := law_calls) (pv 7) rfl rfl) (.name (x := law_cut) (pv 4) rfl rfl))) XA.nil)))) (om := trivial))) law_sc.nd rfl (.inl rfl))
  (.cons (Γ1 := law_G _ C v0)
    (.ite (.not (.val (.call (.v (.v (.v .nil))) G_l_is_pair (hr.mono (by decide)) (by rfl) g_l_is_pair k_l_is_pair b_l_is_pair (.v rfl (.name (x := law_roads) (pv 5) rfl rfl) (.v rfl (.name (x := law_first) (pv 14) rfl rfl) (.v rfl (.len (by rfl) z_len (.name (x := law_start) (pv 6) rfl rfl)) XA.nil))) (om := trivial)))) (.one (.ret .bl ⟨.inr rfl, ⟨.inr rfl, ⟨.inr rfl, ⟨.inr rfl, ⟨.inr rfl, ⟨.inr rfl, ⟨.inr rfl, ⟨.inr rfl, ⟨.inr rfl, ⟨.inr rfl, ⟨.inr rfl, ⟨.inr rfl, ⟨.inr rfl, ⟨.inr rfl, ⟨.inr rfl, ⟨.inr rfl, ⟨.inr rfl, ⟨.inr rfl, trivial⟩⟩⟩⟩⟩⟩⟩⟩⟩⟩⟩⟩⟩⟩⟩⟩⟩⟩)) XSs.nil)
  (.cons (Γ1 := law_G _ C v0)
    (.asg (x := law_second) (.datPO (.call (.v (.v (.v (.v .nil)))) G_run (hr.mono (by decide)) (by rfl) g_run k_run b_run (.v rfl (.name (x := law_tree) (pv 8) rfl rfl) (.v rfl (.name (x := law_rule) (pv 9) rfl rfl) (.v rfl (.dat (.list (by rfl) z_list (.fst (.name (x := law_first) (pv 14) rfl rfl)))) (.v rfl (.dat (.slA (.name (x := law_calls) (pv 7) rfl rfl) (.name (x := law_cut) (pv 4) rfl rfl))) XA.nil)))) (om := trivial))) law_sc.nd rfl (.inl rfl))
  (.cons (Γ1 := law_G _ C v0)
    (.ite (.not (.val (.call (.v (.v (.v .nil))) G_l_is_pair (hr.mono (by decide)) (by rfl) g_l_is_pair k_l_is_pair b_l_is_pair (.v rfl (.name (x := law_roads) (pv 5) rfl rfl) (.v rfl (.name (x := law_second) (pv 15) rfl rfl) (.v rfl (.len (by rfl) z_len (.name (x := law_start) (pv 6) rfl rfl)) XA.nil))) (om := trivial)))) (.one (.ret .bl ⟨.inr rfl, ⟨.inr rfl, ⟨.inr rfl, ⟨.inr rfl, ⟨.inr rfl, ⟨.inr rfl, ⟨.inr rfl, ⟨.inr rfl, ⟨.inr rfl, ⟨.inr rfl, ⟨.inr rfl, ⟨.inr rfl, ⟨.inr rfl, ⟨.inr rfl, ⟨.inr rfl, ⟨.inr rfl, ⟨.inr rfl, ⟨.inr rfl, trivial⟩⟩⟩⟩⟩⟩⟩⟩⟩⟩⟩⟩⟩⟩⟩⟩⟩⟩)) XSs.nil)
  (.one (.ret (.and (.ofC (.eq (.fst (.name (x := law_second) (pv 15) rfl rfl)) (.name (x := law_crew) (pv 10) rfl rfl) hu)) (.one (.ofC (.eq (.add (.snd (.name (x := law_first) (pv 14) rfl rfl)) (.snd (.name (x := law_second) (pv 15) rfl rfl))) (.name (x := law_total) (pv 11) rfl rfl) hu)))) ⟨.inr rfl, ⟨.inr rfl, ⟨.inr rfl, ⟨.inr rfl, ⟨.inr rfl, ⟨.inr rfl, ⟨.inr rfl, ⟨.inr rfl, ⟨.inr rfl, ⟨.inr rfl, ⟨.inr rfl, ⟨.inr rfl, ⟨.inr rfl, ⟨.inr rfl, ⟨.inr rfl, ⟨.inr rfl, ⟨.inr rfl, ⟨.inr rfl, trivial⟩⟩⟩⟩⟩⟩⟩⟩⟩⟩⟩⟩⟩⟩⟩⟩⟩⟩))))))))))))))))))))))
end
theorem all_mk {l : PySem.W.OpenLaw} {w : World} {K : Fr} {h : Heap} {mg : Str → Option Value} {fa f0 f1 f2 f3 f4 f5 f6 f7 f8 f9 f10 f11 f12 f13 f14 f15 f16 f17 f18 f19 f20 f21 f22 f23 f24 f25 f26 f27 f28 f29 f30 f31 C0 C1 C2  : Addr} (X : K.In h) (G : h.Ns mainGlobals mg) (hfa : mg "law" = some (.ref fa))
    {cvR : PySem.ClassData}
    {od0 an0 od1 an1 od2 an2 od3 an3 od4 an4 od5 an5 od6 an6 od7 an7 od8 an8 od9 an9 od10 an10 od11 an11 od12 an12 od13 an13 od14 an14 od15 an15 od16 an16 od17 an17 od18 an18 od19 an19 od20 an20 od21 an21 od22 an22 od23 an23 od24 an24 od25 an25 od26 an26 od27 an27 od28 an28 od29 an29 od30 an30 od31 an31 : Option Addr} {sl0 sl1 sl2 sl3 sl4 sl5 sl6 sl7 sl8 sl9 sl10 sl11 sl12 sl13 sl14 sl15 sl16 sl17 sl18 sl19 sl20 sl21 sl22 sl23 sl24 sl25 sl26 sl27 sl28 sl29 sl30 sl31 : Array (Option Value)} {oc0 kV0 dc0 pm0 cd0 ct0 oc1 kV1 dc1 pm1 cd1 ct1 oc2 kV2 dc2 pm2 cd2 ct2 oc3 kV3 dc3 pm3 cd3 ct3 oc4 kV4 dc4 pm4 cd4 ct4 oc5 kV5 dc5 pm5 cd5 ct5 oc6 kV6 dc6 pm6 cd6 ct6 oc7 kV7 dc7 pm7 cd7 ct7 oc8 kV8 dc8 pm8 cd8 ct8 oc9 kV9 dc9 pm9 cd9 ct9 oc10 kV10 dc10 pm10 cd10 ct10 oc11 kV11 dc11 pm11 cd11 ct11 oc12 kV12 dc12 pm12 cd12 ct12 oc13 kV13 dc13 pm13 cd13 ct13 oc14 kV14 dc14 pm14 cd14 ct14 oc15 kV15 dc15 pm15 cd15 ct15 oc16 kV16 dc16 pm16 cd16 ct16 oc17 kV17 dc17 pm17 cd17 ct17 oc18 kV18 dc18 pm18 cd18 ct18 oc19 kV19 dc19 pm19 cd19 ct19 oc20 kV20 dc20 pm20 cd20 ct20 oc21 kV21 dc21 pm21 cd21 ct21 oc22 kV22 dc22 pm22 cd22 ct22 oc23 kV23 dc23 pm23 cd23 ct23 oc24 kV24 dc24 pm24 cd24 ct24 oc25 kV25 dc25 pm25 cd25 ct25 oc26 kV26 dc26 pm26 cd26 ct26 oc27 kV27 dc27 pm27 cd27 ct27 oc28 kV28 dc28 pm28 cd28 ct28 oc29 kV29 dc29 pm29 cd29 ct29 oc30 kV30 dc30 pm30 cd30 ct30 oc31 kV31 dc31 pm31 cd31 ct31 : Value}
    (a0 : PySem.W.nsIn K mainGlobals "sees" = some (some (.ref f0))) (l0 : K.lookup f0 = some ⟨oc0, od0, .func (PySem.W.fnOf "sees" "sees" (defArgs (topS 4)) (defBody (topS 4)) (defScope (topS 4)) .none kV0 dc0 pm0 an0 cd0 ct0), sl0⟩) (c0 : PySem.W.codeIn K cd0 "sees" = true) (k0 : PySem.W.keepIn K (.ref f0) = true)
    (a1 : PySem.W.nsIn K mainGlobals "seers" = some (some (.ref f1))) (l1 : K.lookup f1 = some ⟨oc1, od1, .func (PySem.W.fnOf "seers" "seers" (defArgs (topS 5)) (defBody (topS 5)) (defScope (topS 5)) .none kV1 dc1 pm1 an1 cd1 ct1), sl1⟩) (c1 : PySem.W.codeIn K cd1 "seers" = true) (k1 : PySem.W.keepIn K (.ref f1) = true)
    (a2 : PySem.W.nsIn K mainGlobals "next_change" = some (some (.ref f2))) (l2 : K.lookup f2 = some ⟨oc2, od2, .func (PySem.W.fnOf "next_change" "next_change" (defArgs (topS 6)) (defBody (topS 6)) (defScope (topS 6)) .none kV2 dc2 pm2 an2 cd2 ct2), sl2⟩) (c2 : PySem.W.codeIn K cd2 "next_change" = true) (k2 : PySem.W.keepIn K (.ref f2) = true)
    (a3 : PySem.W.nsIn K mainGlobals "lead_nearest" = some (some (.ref f3))) (l3 : K.lookup f3 = some ⟨oc3, od3, .func (PySem.W.fnOf "lead_nearest" "lead_nearest" (defArgs (topS 7)) (defBody (topS 7)) (defScope (topS 7)) .none kV3 dc3 pm3 an3 cd3 ct3), sl3⟩) (c3 : PySem.W.codeIn K cd3 "lead_nearest" = true) (k3 : PySem.W.keepIn K (.ref f3) = true)
    (a4 : PySem.W.nsIn K mainGlobals "lead_both" = some (some (.ref f4))) (l4 : K.lookup f4 = some ⟨oc4, od4, .func (PySem.W.fnOf "lead_both" "lead_both" (defArgs (topS 8)) (defBody (topS 8)) (defScope (topS 8)) .none kV4 dc4 pm4 an4 cd4 ct4), sl4⟩) (c4 : PySem.W.codeIn K cd4 "lead_both" = true) (k4 : PySem.W.keepIn K (.ref f4) = true)
    (a5 : PySem.W.nsIn K mainGlobals "lead" = some (some (.ref f5))) (l5 : K.lookup f5 = some ⟨oc5, od5, .func (PySem.W.fnOf "lead" "lead" (defArgs (topS 9)) (defBody (topS 9)) (defScope (topS 9)) .none kV5 dc5 pm5 an5 cd5 ct5), sl5⟩) (c5 : PySem.W.codeIn K cd5 "lead" = true) (k5 : PySem.W.keepIn K (.ref f5) = true)
    (a6 : PySem.W.nsIn K mainGlobals "run" = some (some (.ref f6))) (l6 : K.lookup f6 = some ⟨oc6, od6, .func (PySem.W.fnOf "run" "run" (defArgs (topS 10)) (defBody (topS 10)) (defScope (topS 10)) .none kV6 dc6 pm6 an6 cd6 ct6), sl6⟩) (c6 : PySem.W.codeIn K cd6 "run" = true) (k6 : PySem.W.keepIn K (.ref f6) = true)
    (a7 : PySem.W.nsIn K mainGlobals "is_integer" = some (some (.ref f7))) (l7 : K.lookup f7 = some ⟨oc7, od7, .func (PySem.W.fnOf "is_integer" "is_integer" (defArgs (topS 16)) (defBody (topS 16)) (defScope (topS 16)) .none kV7 dc7 pm7 an7 cd7 ct7), sl7⟩) (c7 : PySem.W.codeIn K cd7 "is_integer" = true) (k7 : PySem.W.keepIn K (.ref f7) = true)
    (a8 : PySem.W.nsIn K mainGlobals "is_pair" = some (some (.ref f8))) (l8 : K.lookup f8 = some ⟨oc8, od8, .func (PySem.W.fnOf "is_pair" "is_pair" (defArgs (topS 17)) (defBody (topS 17)) (defScope (topS 17)) .none kV8 dc8 pm8 an8 cd8 ct8), sl8⟩) (c8 : PySem.W.codeIn K cd8 "is_pair" = true) (k8 : PySem.W.keepIn K (.ref f8) = true)
    (a9 : PySem.W.nsIn K mainGlobals "_law_mixed" = some (some (.ref f9))) (l9 : K.lookup f9 = some ⟨oc9, od9, .func (PySem.W.fnOf "_law_mixed" "_law_mixed" (defArgs (topS 20)) (defBody (topS 20)) (defScope (topS 20)) .none kV9 dc9 pm9 an9 cd9 ct9), sl9⟩) (c9 : PySem.W.codeIn K cd9 "_law_mixed" = true) (k9 : PySem.W.keepIn K (.ref f9) = true)
    (a10 : PySem.W.nsIn K mainGlobals "_law_source" = some (some (.ref f10))) (l10 : K.lookup f10 = some ⟨oc10, od10, .func (PySem.W.fnOf "_law_source" "_law_source" (defArgs (topS 21)) (defBody (topS 21)) (defScope (topS 21)) .none kV10 dc10 pm10 an10 cd10 ct10), sl10⟩) (c10 : PySem.W.codeIn K cd10 "_law_source" = true) (k10 : PySem.W.keepIn K (.ref f10) = true)
    (a11 : PySem.W.nsIn K mainGlobals "_law_pick" = some (some (.ref f11))) (l11 : K.lookup f11 = some ⟨oc11, od11, .func (PySem.W.fnOf "_law_pick" "_law_pick" (defArgs (topS 22)) (defBody (topS 22)) (defScope (topS 22)) .none kV11 dc11 pm11 an11 cd11 ct11), sl11⟩) (c11 : PySem.W.codeIn K cd11 "_law_pick" = true) (k11 : PySem.W.keepIn K (.ref f11) = true)
    (a12 : PySem.W.nsIn K mainGlobals "_law_is_integer" = some (some (.ref f12))) (l12 : K.lookup f12 = some ⟨oc12, od12, .func (PySem.W.fnOf "_law_is_integer" "_law_is_integer" (defArgs (topS 23)) (defBody (topS 23)) (defScope (topS 23)) .none kV12 dc12 pm12 an12 cd12 ct12), sl12⟩) (c12 : PySem.W.codeIn K cd12 "_law_is_integer" = true) (k12 : PySem.W.keepIn K (.ref f12) = true)
    (a13 : PySem.W.nsIn K mainGlobals "_law_roads" = some (some (.ref f13))) (l13 : K.lookup f13 = some ⟨oc13, od13, .func (PySem.W.fnOf "_law_roads" "_law_roads" (defArgs (topS 24)) (defBody (topS 24)) (defScope (topS 24)) .none kV13 dc13 pm13 an13 cd13 ct13), sl13⟩) (c13 : PySem.W.codeIn K cd13 "_law_roads" = true) (k13 : PySem.W.keepIn K (.ref f13) = true)
    (a14 : PySem.W.nsIn K mainGlobals "_law_point" = some (some (.ref f14))) (l14 : K.lookup f14 = some ⟨oc14, od14, .func (PySem.W.fnOf "_law_point" "_law_point" (defArgs (topS 25)) (defBody (topS 25)) (defScope (topS 25)) .none kV14 dc14 pm14 an14 cd14 ct14), sl14⟩) (c14 : PySem.W.codeIn K cd14 "_law_point" = true) (k14 : PySem.W.keepIn K (.ref f14) = true)
    (a15 : PySem.W.nsIn K mainGlobals "_law_helpers" = some (some (.ref f15))) (l15 : K.lookup f15 = some ⟨oc15, od15, .func (PySem.W.fnOf "_law_helpers" "_law_helpers" (defArgs (topS 26)) (defBody (topS 26)) (defScope (topS 26)) .none kV15 dc15 pm15 an15 cd15 ct15), sl15⟩) (c15 : PySem.W.codeIn K cd15 "_law_helpers" = true) (k15 : PySem.W.keepIn K (.ref f15) = true)
    (a16 : PySem.W.nsIn K mainGlobals "_law_calls" = some (some (.ref f16))) (l16 : K.lookup f16 = some ⟨oc16, od16, .func (PySem.W.fnOf "_law_calls" "_law_calls" (defArgs (topS 27)) (defBody (topS 27)) (defScope (topS 27)) .none kV16 dc16 pm16 an16 cd16 ct16), sl16⟩) (c16 : PySem.W.codeIn K cd16 "_law_calls" = true) (k16 : PySem.W.keepIn K (.ref f16) = true)
    (a17 : PySem.W.nsIn K mainGlobals "_law_far" = some (some (.ref f17))) (l17 : K.lookup f17 = some ⟨oc17, od17, .func (PySem.W.fnOf "_law_far" "_law_far" (defArgs (topS 28)) (defBody (topS 28)) (defScope (topS 28)) .none kV17 dc17 pm17 an17 cd17 ct17), sl17⟩) (c17 : PySem.W.codeIn K cd17 "_law_far" = true) (k17 : PySem.W.keepIn K (.ref f17) = true)
    (a18 : PySem.W.nsIn K mainGlobals "_law_is_point" = some (some (.ref f18))) (l18 : K.lookup f18 = some ⟨oc18, od18, .func (PySem.W.fnOf "_law_is_point" "_law_is_point" (defArgs (topS 29)) (defBody (topS 29)) (defScope (topS 29)) .none kV18 dc18 pm18 an18 cd18 ct18), sl18⟩) (c18 : PySem.W.codeIn K cd18 "_law_is_point" = true) (k18 : PySem.W.keepIn K (.ref f18) = true)
    (a19 : PySem.W.nsIn K mainGlobals "_law_are_points" = some (some (.ref f19))) (l19 : K.lookup f19 = some ⟨oc19, od19, .func (PySem.W.fnOf "_law_are_points" "_law_are_points" (defArgs (topS 30)) (defBody (topS 30)) (defScope (topS 30)) .none kV19 dc19 pm19 an19 cd19 ct19), sl19⟩) (c19 : PySem.W.codeIn K cd19 "_law_are_points" = true) (k19 : PySem.W.keepIn K (.ref f19) = true)
    (a20 : PySem.W.nsIn K mainGlobals "_law_stop" = some (some (.ref f20))) (l20 : K.lookup f20 = some ⟨oc20, od20, .func (PySem.W.fnOf "_law_stop" "_law_stop" (defArgs (topS 31)) (defBody (topS 31)) (defScope (topS 31)) .none kV20 dc20 pm20 an20 cd20 ct20), sl20⟩) (c20 : PySem.W.codeIn K cd20 "_law_stop" = true) (k20 : PySem.W.keepIn K (.ref f20) = true)
    (a21 : PySem.W.nsIn K mainGlobals "_law_is_pair" = some (some (.ref f21))) (l21 : K.lookup f21 = some ⟨oc21, od21, .func (PySem.W.fnOf "_law_is_pair" "_law_is_pair" (defArgs (topS 32)) (defBody (topS 32)) (defScope (topS 32)) .none kV21 dc21 pm21 an21 cd21 ct21), sl21⟩) (c21 : PySem.W.codeIn K cd21 "_law_is_pair" = true) (k21 : PySem.W.keepIn K (.ref f21) = true)
    (a22 : PySem.W.nsIn K mainGlobals "_law_led" = some (some (.ref f22))) (l22 : K.lookup f22 = some ⟨oc22, od22, .func (PySem.W.fnOf "_law_led" "_law_led" (defArgs (topS 33)) (defBody (topS 33)) (defScope (topS 33)) .none kV22 dc22 pm22 an22 cd22 ct22), sl22⟩) (c22 : PySem.W.codeIn K cd22 "_law_led" = true) (k22 : PySem.W.keepIn K (.ref f22) = true)
    (a23 : PySem.W.nsIn K mainGlobals "law" = some (some (.ref f23))) (l23 : K.lookup f23 = some ⟨oc23, od23, .func (PySem.W.fnOf "law" "law" (defArgs (topS 34)) (defBody (topS 34)) (defScope (topS 34)) .none kV23 dc23 pm23 an23 cd23 ct23), sl23⟩) (c23 : PySem.W.codeIn K cd23 "law" = true) (k23 : PySem.W.keepIn K (.ref f23) = true)
    (a24 : PySem.W.findIn K (.ref C0) "__init__" = some (some (.ref f24))) (l24 : K.lookup f24 = some ⟨oc24, od24, .func (PySem.W.fnOf "__init__" "Tree.__init__" (defArgs (inClass (topS 18) 0)) (defBody (inClass (topS 18) 0)) (defScope (inClass (topS 18) 0)) .none kV24 dc24 pm24 an24 cd24 ct24), sl24⟩) (c24 : PySem.W.codeIn K cd24 "Tree.__init__" = true) (k24 : PySem.W.keepIn K (.ref f24) = true) (i24 : PySem.W.isFn K (.ref f24) = true)
    (a25 : PySem.W.findIn K (.ref C0) "__contains__" = some (some (.ref f25))) (l25 : K.lookup f25 = some ⟨oc25, od25, .func (PySem.W.fnOf "__contains__" "Tree.__contains__" (defArgs (inClass (topS 18) 4)) (defBody (inClass (topS 18) 4)) (defScope (inClass (topS 18) 4)) .none kV25 dc25 pm25 an25 cd25 ct25), sl25⟩) (c25 : PySem.W.codeIn K cd25 "Tree.__contains__" = true) (k25 : PySem.W.keepIn K (.ref f25) = true) (i25 : PySem.W.isFn K (.ref f25) = true)
    (a26 : PySem.W.findIn K (.ref C0) "height" = some (some (.ref f26))) (l26 : K.lookup f26 = some ⟨oc26, od26, .func (PySem.W.fnOf "height" "Tree.height" (defArgs (inClass (topS 18) 5)) (defBody (inClass (topS 18) 5)) (defScope (inClass (topS 18) 5)) .none kV26 dc26 pm26 an26 cd26 ct26), sl26⟩) (c26 : PySem.W.codeIn K cd26 "Tree.height" = true) (k26 : PySem.W.keepIn K (.ref f26) = true) (i26 : PySem.W.isFn K (.ref f26) = true)
    (a27 : PySem.W.findIn K (.ref C0) "junction" = some (some (.ref f27))) (l27 : K.lookup f27 = some ⟨oc27, od27, .func (PySem.W.fnOf "junction" "Tree.junction" (defArgs (inClass (topS 18) 6)) (defBody (inClass (topS 18) 6)) (defScope (inClass (topS 18) 6)) .none kV27 dc27 pm27 an27 cd27 ct27), sl27⟩) (c27 : PySem.W.codeIn K cd27 "Tree.junction" = true) (k27 : PySem.W.keepIn K (.ref f27) = true) (i27 : PySem.W.isFn K (.ref f27) = true)
    (a28 : PySem.W.findIn K (.ref C0) "distance" = some (some (.ref f28))) (l28 : K.lookup f28 = some ⟨oc28, od28, .func (PySem.W.fnOf "distance" "Tree.distance" (defArgs (inClass (topS 18) 7)) (defBody (inClass (topS 18) 7)) (defScope (inClass (topS 18) 7)) .none kV28 dc28 pm28 an28 cd28 ct28), sl28⟩) (c28 : PySem.W.codeIn K cd28 "Tree.distance" = true) (k28 : PySem.W.keepIn K (.ref f28) = true) (i28 : PySem.W.isFn K (.ref f28) = true)
    (a29 : PySem.W.findIn K (.ref C0) "on_way" = some (some (.ref f29))) (l29 : K.lookup f29 = some ⟨oc29, od29, .func (PySem.W.fnOf "on_way" "Tree.on_way" (defArgs (inClass (topS 18) 8)) (defBody (inClass (topS 18) 8)) (defScope (inClass (topS 18) 8)) .none kV29 dc29 pm29 an29 cd29 ct29), sl29⟩) (c29 : PySem.W.codeIn K cd29 "Tree.on_way" = true) (k29 : PySem.W.keepIn K (.ref f29) = true) (i29 : PySem.W.isFn K (.ref f29) = true)
    (a30 : PySem.W.findIn K (.ref C0) "raised" = some (some (.ref f30))) (l30 : K.lookup f30 = some ⟨oc30, od30, .func (PySem.W.fnOf "raised" "Tree.raised" (defArgs (inClass (topS 18) 9)) (defBody (inClass (topS 18) 9)) (defScope (inClass (topS 18) 9)) .none kV30 dc30 pm30 an30 cd30 ct30), sl30⟩) (c30 : PySem.W.codeIn K cd30 "Tree.raised" = true) (k30 : PySem.W.keepIn K (.ref f30) = true) (i30 : PySem.W.isFn K (.ref f30) = true)
    (a31 : PySem.W.findIn K (.ref C0) "towards" = some (some (.ref f31))) (l31 : K.lookup f31 = some ⟨oc31, od31, .func (PySem.W.fnOf "towards" "Tree.towards" (defArgs (inClass (topS 18) 10)) (defBody (inClass (topS 18) 10)) (defScope (inClass (topS 18) 10)) .none kV31 dc31 pm31 an31 cd31 ct31), sl31⟩) (c31 : PySem.W.codeIn K cd31 "Tree.towards" = true) (k31 : PySem.W.keepIn K (.ref f31) = true) (i31 : PySem.W.isFn K (.ref f31) = true)
    (aC : PySem.W.nsIn K mainGlobals "Tree" = some (some (.ref C0))) (pg : PySem.W.plainGet K C0 Str.empty = true) (hd : PySem.W.hasDictIn K C0 = true) (po : PySem.W.plainOver K C0 = true) (sa : PySem.W.findIn K (.ref C0) "__setattr__" = some (some (.builtin "object.__setattr__"))) (mk : PySem.W.makesIn K C0 = true) (kc : PySem.W.keepIn K (.ref C0) = true) (nP : PySem.W.findIn K (.ref C0) "parents" = some none) (nL : PySem.W.findIn K (.ref C0) "lengths" = some none) (nH : PySem.W.findIn K (.ref C0) "heights" = some none)
    (aR1 : PySem.W.nsIn K mainGlobals "Nearest" = some (some (.ref C1))) (mkR1 : PySem.W.makesIn K C1 = true) (inR1 : PySem.W.findIn K (.ref C1) "__init__" = some (some (.builtin "object.__init__"))) (kpR1 : PySem.W.keepIn K (.ref C1) = true) (pgR1 : PySem.W.plainGet K C1 Str.empty = true) (hdR1 : PySem.W.hasDictIn K C1 = true) (poR1 : PySem.W.plainOver K C1 = true) (saR1 : PySem.W.findIn K (.ref C1) "__setattr__" = some (some (.builtin "object.__setattr__"))) (haR1 : PySem.W.findIn K (.ref C1) "__class__" = some (some (.builtin "object.__class__"))) (hmR1 : PySem.W.mroIn K C1 (.type "object") = some true)
    (aR2 : PySem.W.nsIn K mainGlobals "Both" = some (some (.ref C2))) (mkR2 : PySem.W.makesIn K C2 = true) (inR2 : PySem.W.findIn K (.ref C2) "__init__" = some (some (.builtin "object.__init__"))) (kpR2 : PySem.W.keepIn K (.ref C2) = true) (pgR2 : PySem.W.plainGet K C2 Str.empty = true) (hdR2 : PySem.W.hasDictIn K C2 = true) (poR2 : PySem.W.plainOver K C2 = true) (saR2 : PySem.W.findIn K (.ref C2) "__setattr__" = some (some (.builtin "object.__setattr__"))) (haR2 : PySem.W.findIn K (.ref C2) "__class__" = some (some (.builtin "object.__class__"))) (hmR2 : PySem.W.mroIn K C2 (.type "object") = some true) (suR2 : PySem.W.subIn K (.ref C2) (.ref C1) = some false) (tyR2 : PySem.W.typeIn K (.ref C1) = some (.type "type")) (csR2 : PySem.W.clsIn K C1 = some cvR) (neR2 : (Value.ref C2 == Value.ref C1) = false)
    (hnR : PySem.W.specialIn K (.builtin "object.__class__") "__get__" = some (some (.builtin "getset_descriptor.__get__"))) (htR : PySem.W.takesIn K (.builtin "object.__class__") = some true)
    (z0 : PySem.W.nsIn K mainGlobals "enumerate" = some none) (z1 : PySem.W.nsIn K mainGlobals "range" = some none) (z2 : PySem.W.nsIn K mainGlobals "len" = some none) (z3 : PySem.W.nsIn K mainGlobals "min" = some none) (z4 : PySem.W.nsIn K mainGlobals "list" = some none) (z5 : PySem.W.nsIn K mainGlobals "isinstance" = some none) (z6 : PySem.W.nsIn K mainGlobals "int" = some none) (z7 : PySem.W.nsIn K mainGlobals "bool" = some none) (z8 : PySem.W.nsIn K mainGlobals "tuple" = some none) (z9 : PySem.W.nsIn K mainGlobals "abs" = some none) (z10 : PySem.W.nsIn K mainGlobals "sum" = some none) :
    ∃ fd : FuncData, (∀ (s : Shared) (v : Value), BindsTo s fd ⟨[v], []⟩ [("script", v)]) ∧ ∀ base : Heap, K.In base → base.Ns mainGlobals mg → FnOk l.prog w K mg base CX0 13 fa fd ["script"] (spF (lawFs K (bodyF (ps := law_ps) (ls := law_ls) law_m))) := by
  have e := hfa.symm.trans (PySem.W.mg_of X G a23)
  cases e
  have y_enumerate := PySem.W.mg_none_of X G z0
  have y_range := PySem.W.mg_none_of X G z1
  have y_len := PySem.W.mg_none_of X G z2
  have y_min := PySem.W.mg_none_of X G z3
  have y_list := PySem.W.mg_none_of X G z4
  have y_isinstance := PySem.W.mg_none_of X G z5
  have y_int := PySem.W.mg_none_of X G z6
  have y_bool := PySem.W.mg_none_of X G z7
  have y_tuple := PySem.W.mg_none_of X G z8
  have y_abs := PySem.W.mg_none_of X G z9
  have y_sum := PySem.W.mg_none_of X G z10
  have F0 := fun_mk (st := (topS 4)) l0 c0 k0
  have b0 := F0.binds (ps := ["tree", "crew", "call", "number"]) fun _ _ _ _ _ _ us hl => match us, hl with | [_, _, _, _], _ => rfl
  have g0 := PySem.W.mg_of X G a0
  have F1 := fun_mk (st := (topS 5)) l1 c1 k1
  have b1 := F1.binds (ps := ["tree", "crew", "call"]) fun _ _ _ _ _ _ us hl => match us, hl with | [_, _, _], _ => rfl
  have g1 := PySem.W.mg_of X G a1
  have F2 := fun_mk (st := (topS 6)) l2 c2 k2
  have b2 := F2.binds (ps := ["tree", "points", "call"]) fun _ _ _ _ _ _ us hl => match us, hl with | [_, _, _], _ => rfl
  have g2 := PySem.W.mg_of X G a2
  have F3 := fun_mk (st := (topS 7)) l3 c3 k3
  have b3 := F3.binds (ps := ["tree", "crew", "call"]) fun _ _ _ _ _ _ us hl => match us, hl with | [_, _, _], _ => rfl
  have g3 := PySem.W.mg_of X G a3
  have F4 := fun_mk (st := (topS 8)) l4 c4 k4
  have b4 := F4.binds (ps := ["tree", "crew", "call"]) fun _ _ _ _ _ _ us hl => match us, hl with | [_, _, _], _ => rfl
  have g4 := PySem.W.mg_of X G a4
  have F5 := fun_mk (st := (topS 9)) l5 c5 k5
  have b5 := F5.binds (ps := ["tree", "rule", "crew", "call"]) fun _ _ _ _ _ _ us hl => match us, hl with | [_, _, _, _], _ => rfl
  have g5 := PySem.W.mg_of X G a5
  have F6 := fun_mk (st := (topS 10)) l6 c6 k6
  have b6 := F6.binds (ps := ["tree", "rule", "crew", "calls"]) fun _ _ _ _ _ _ us hl => match us, hl with | [_, _, _, _], _ => rfl
  have g6 := PySem.W.mg_of X G a6
  have F7 := fun_mk (st := (topS 16)) l7 c7 k7
  have b7 := F7.binds (ps := ["value"]) fun _ _ _ _ _ _ us hl => match us, hl with | [_], _ => rfl
  have g7 := PySem.W.mg_of X G a7
  have F8 := fun_mk (st := (topS 17)) l8 c8 k8
  have b8 := F8.binds (ps := ["value"]) fun _ _ _ _ _ _ us hl => match us, hl with | [_], _ => rfl
  have g8 := PySem.W.mg_of X G a8
  have F9 := fun_mk (st := (topS 20)) l9 c9 k9
  have b9 := F9.binds (ps := ["cell"]) fun _ _ _ _ _ _ us hl => match us, hl with | [_], _ => rfl
  have g9 := PySem.W.mg_of X G a9
  have F10 := fun_mk (st := (topS 21)) l10 c10 k10
  have b10 := F10.binds (ps := ["script"]) fun _ _ _ _ _ _ us hl => match us, hl with | [_], _ => rfl
  have g10 := PySem.W.mg_of X G a10
  have F11 := fun_mk (st := (topS 22)) l11 c11 k11
  have b11 := F11.binds (ps := ["source", "size"]) fun _ _ _ _ _ _ us hl => match us, hl with | [_, _], _ => rfl
  have g11 := PySem.W.mg_of X G a11
  have F12 := fun_mk (st := (topS 23)) l12 c12 k12
  have b12 := F12.binds (ps := ["actual"]) fun _ _ _ _ _ _ us hl => match us, hl with | [_], _ => rfl
  have g12 := PySem.W.mg_of X G a12
  have F13 := fun_mk (st := (topS 24)) l13 c13 k13
  have b13 := F13.binds (ps := ["source", "least"]) fun _ _ _ _ _ _ us hl => match us, hl with | [_, _], _ => rfl
  have g13 := PySem.W.mg_of X G a13
  have F14 := fun_mk (st := (topS 25)) l14 c14 k14
  have b14 := F14.binds (ps := ["source", "roads"]) fun _ _ _ _ _ _ us hl => match us, hl with | [_, _], _ => rfl
  have g14 := PySem.W.mg_of X G a14
  have F15 := fun_mk (st := (topS 26)) l15 c15 k15
  have b15 := F15.binds (ps := ["source", "roads", "many"]) fun _ _ _ _ _ _ us hl => match us, hl with | [_, _, _], _ => rfl
  have g15 := PySem.W.mg_of X G a15
  have F16 := fun_mk (st := (topS 27)) l16 c16 k16
  have b16 := F16.binds (ps := ["source", "roads", "crew", "many"]) fun _ _ _ _ _ _ us hl => match us, hl with | [_, _, _, _], _ => rfl
  have g16 := PySem.W.mg_of X G a16
  have F17 := fun_mk (st := (topS 28)) l17 c17 k17
  have b17 := F17.binds (ps := ["roads", "one", "other"]) fun _ _ _ _ _ _ us hl => match us, hl with | [_, _, _], _ => rfl
  have g17 := PySem.W.mg_of X G a17
  have F18 := fun_mk (st := (topS 29)) l18 c18 k18
  have b18 := F18.binds (ps := ["roads", "actual"]) fun _ _ _ _ _ _ us hl => match us, hl with | [_, _], _ => rfl
  have g18 := PySem.W.mg_of X G a18
  have F19 := fun_mk (st := (topS 30)) l19 c19 k19
  have b19 := F19.binds (ps := ["roads", "actual", "many"]) fun _ _ _ _ _ _ us hl => match us, hl with | [_, _, _], _ => rfl
  have g19 := PySem.W.mg_of X G a19
  have F20 := fun_mk (st := (topS 31)) l20 c20 k20
  have b20 := F20.binds (ps := ["roads", "crew", "call", "gone", "i"]) fun _ _ _ _ _ _ us hl => match us, hl with | [_, _, _, _, _], _ => rfl
  have g20 := PySem.W.mg_of X G a20
  have F21 := fun_mk (st := (topS 32)) l21 c21 k21
  have b21 := F21.binds (ps := ["roads", "actual", "many"]) fun _ _ _ _ _ _ us hl => match us, hl with | [_, _, _], _ => rfl
  have g21 := PySem.W.mg_of X G a21
  have F22 := fun_mk (st := (topS 33)) l22 c22 k22
  have b22 := F22.binds (ps := ["roads", "kind", "crew", "call", "actual"]) fun _ _ _ _ _ _ us hl => match us, hl with | [_, _, _, _, _], _ => rfl
  have g22 := PySem.W.mg_of X G a22
  have F23 := fun_mk (st := (topS 34)) l23 c23 k23
  have b23 := F23.binds (ps := ["script"]) fun _ _ _ _ _ _ us hl => match us, hl with | [_], _ => rfl
  have g23 := PySem.W.mg_of X G a23
  have F24 := fun_mk (st := (inClass (topS 18) 0)) l24 c24 k24
  have b24 := F24.binds (ps := ["self", "roads"]) fun _ _ _ _ _ _ us hl => match us, hl with | [_, _], _ => rfl
  have F25 := fun_mk (st := (inClass (topS 18) 4)) l25 c25 k25
  have b25 := F25.binds (ps := ["self", "point"]) fun _ _ _ _ _ _ us hl => match us, hl with | [_, _], _ => rfl
  have F26 := fun_mk (st := (inClass (topS 18) 5)) l26 c26 k26
  have b26 := F26.binds (ps := ["self", "point"]) fun _ _ _ _ _ _ us hl => match us, hl with | [_, _], _ => rfl
  have F27 := fun_mk (st := (inClass (topS 18) 6)) l27 c27 k27
  have b27 := F27.binds (ps := ["self", "one", "other"]) fun _ _ _ _ _ _ us hl => match us, hl with | [_, _, _], _ => rfl
  have F28 := fun_mk (st := (inClass (topS 18) 7)) l28 c28 k28
  have b28 := F28.binds (ps := ["self", "one", "other"]) fun _ _ _ _ _ _ us hl => match us, hl with | [_, _, _], _ => rfl
  have F29 := fun_mk (st := (inClass (topS 18) 8)) l29 c29 k29
  have b29 := F29.binds (ps := ["self", "point", "one", "other"]) fun _ _ _ _ _ _ us hl => match us, hl with | [_, _, _, _], _ => rfl
  have F30 := fun_mk (st := (inClass (topS 18) 9)) l30 c30 k30
  have b30 := F30.binds (ps := ["self", "point", "far"]) fun _ _ _ _ _ _ us hl => match us, hl with | [_, _, _], _ => rfl
  have F31 := fun_mk (st := (inClass (topS 18) 10)) l31 c31 k31
  have b31 := F31.binds (ps := ["self", "one", "other", "far"]) fun _ _ _ _ _ _ us hl => match us, hl with | [_, _, _, _], _ => rfl
  refine ⟨PySem.W.fnOf "law" "law" (defArgs (topS 34)) (defBody (topS 34)) (defScope (topS 34)) .none kV23 dc23 pm23 an23 cd23 ct23, fun s v => .of_eq rfl, fun base _ _ => ?_⟩
  have gT := PySem.W.mg_of X G aC
  have TC0 : TC K C0 := ⟨⟨pg, hd, po, sa⟩, nP, nL, nH⟩
  have RU : RuA K mg (clsR (fun i => match i with | 0 => C0 | 1 => C1 | _ => C2)) := by
    refine ⟨fun x C h => ?_, fun x C D h1 h2 => ?_⟩
    · cases x
      · cases h; exact ⟨mkR1, inR1, kpR1, PySem.W.mg_of X G aR1, ⟨pgR1, hdR1, poR1, saR1⟩, haR1, hnR, htR, hmR1⟩
      · cases h; exact ⟨mkR2, inR2, kpR2, PySem.W.mg_of X G aR2, ⟨pgR2, hdR2, poR2, saR2⟩, haR2, hnR, htR, hmR2⟩
    · cases x
      · cases h1; cases h2; exact kit_self _ _
      · cases h1; cases h2; exact kit_sub neR2 csR2 tyR2 suR2
  have G7 := is_integer_ok (Pr := l.prog) (w := w) (base := base) (mg := mg) (C := fun i => match i with | 0 => C0 | 1 => C1 | _ => C2) F7 TC0 RU y_isinstance y_int y_bool
  have G9 := l_mixed_ok (Pr := l.prog) (w := w) (base := base) (mg := mg) (C := fun i => match i with | 0 => C0 | 1 => C1 | _ => C2) F9 TC0 RU y_range y_int
  have G11 := l_pick_ok (Pr := l.prog) (w := w) (base := base) (mg := mg) (C := fun i => match i with | 0 => C0 | 1 => C1 | _ => C2) F11 TC0 RU y_int
  have G12 := l_is_integer_ok (Pr := l.prog) (w := w) (base := base) (mg := mg) (C := fun i => match i with | 0 => C0 | 1 => C1 | _ => C2) F12 TC0 RU y_isinstance y_int y_bool
  have G17 := l_far_ok (Pr := l.prog) (w := w) (base := base) (mg := mg) (C := fun i => match i with | 0 => C0 | 1 => C1 | _ => C2) F17 TC0 RU y_range y_len y_abs
  have G30 := T_raised_ok (Pr := l.prog) (w := w) (base := base) (mg := mg) (C := fun i => match i with | 0 => C0 | 1 => C1 | _ => C2) F30 TC0 RU 
  have G8 := is_pair_ok (Pr := l.prog) (w := w) (base := base) (mg := mg) (C := fun i => match i with | 0 => C0 | 1 => C1 | _ => C2) F8 TC0 RU G7 b7 g7 k7 y_isinstance y_tuple y_len
  have G10 := l_source_ok (Pr := l.prog) (w := w) (base := base) (mg := mg) (C := fun i => match i with | 0 => C0 | 1 => C1 | _ => C2) F10 TC0 RU G9 b9 g9 k9 
  have G13 := l_roads_ok (Pr := l.prog) (w := w) (base := base) (mg := mg) (C := fun i => match i with | 0 => C0 | 1 => C1 | _ => C2) F13 TC0 RU G11 b11 g11 k11 y_range
  have G14 := l_point_ok (Pr := l.prog) (w := w) (base := base) (mg := mg) (C := fun i => match i with | 0 => C0 | 1 => C1 | _ => C2) F14 TC0 RU G11 b11 g11 k11 y_len
  have G18 := l_is_point_ok (Pr := l.prog) (w := w) (base := base) (mg := mg) (C := fun i => match i with | 0 => C0 | 1 => C1 | _ => C2) F18 TC0 RU G12 b12 g12 k12 y_isinstance y_tuple y_len
  have G20 := l_stop_ok (Pr := l.prog) (w := w) (base := base) (mg := mg) (C := fun i => match i with | 0 => C0 | 1 => C1 | _ => C2) F20 TC0 RU G17 b17 g17 k17 y_min y_range y_len
  have G15 := l_helpers_ok (Pr := l.prog) (w := w) (base := base) (mg := mg) (C := fun i => match i with | 0 => C0 | 1 => C1 | _ => C2) F15 TC0 RU G11 b11 g11 k11 G14 b14 g14 k14 y_range
  have G16 := l_calls_ok (Pr := l.prog) (w := w) (base := base) (mg := mg) (C := fun i => match i with | 0 => C0 | 1 => C1 | _ => C2) F16 TC0 RU G11 b11 g11 k11 G14 b14 g14 k14 y_range y_len
  have G19 := l_are_points_ok (Pr := l.prog) (w := w) (base := base) (mg := mg) (C := fun i => match i with | 0 => C0 | 1 => C1 | _ => C2) F19 TC0 RU G18 b18 g18 k18 y_range y_isinstance y_list y_len
  have G24 := T_init_ok (Pr := l.prog) (w := w) (base := base) (mg := mg) (C := fun i => match i with | 0 => C0 | 1 => C1 | _ => C2) F24 TC0 RU G8 b8 g8 k8 y_isinstance y_list y_len
  have G25 := T_contains_ok (Pr := l.prog) (w := w) (base := base) (mg := mg) (C := fun i => match i with | 0 => C0 | 1 => C1 | _ => C2) F25 TC0 RU G8 b8 g8 k8 y_len
  have G21 := l_is_pair_ok (Pr := l.prog) (w := w) (base := base) (mg := mg) (C := fun i => match i with | 0 => C0 | 1 => C1 | _ => C2) F21 TC0 RU G19 b19 g19 k19 G12 b12 g12 k12 y_isinstance y_tuple y_len
  have G26 := T_height_ok (Pr := l.prog) (w := w) (base := base) (mg := mg) (C := fun i => match i with | 0 => C0 | 1 => C1 | _ => C2) F26 TC0 RU G25 b25 ⟨a25, i25, k25⟩ 
  have G22 := l_led_ok (Pr := l.prog) (w := w) (base := base) (mg := mg) (C := fun i => match i with | 0 => C0 | 1 => C1 | _ => C2) F22 TC0 RU G21 b21 g21 k21 G17 b17 g17 k17 G20 b20 g20 k20 y_range y_sum y_len y_min
  have G27 := T_junction_ok (Pr := l.prog) (w := w) (base := base) (mg := mg) (C := fun i => match i with | 0 => C0 | 1 => C1 | _ => C2) F27 TC0 RU G26 b26 ⟨a26, i26, k26⟩ y_min
  have G28 := T_distance_ok (Pr := l.prog) (w := w) (base := base) (mg := mg) (C := fun i => match i with | 0 => C0 | 1 => C1 | _ => C2) F28 TC0 RU G26 b26 ⟨a26, i26, k26⟩ G27 b27 ⟨a27, i27, k27⟩ 
  have G2 := next_change_ok (Pr := l.prog) (w := w) (base := base) (mg := mg) (C := fun i => match i with | 0 => C0 | 1 => C1 | _ => C2) F2 TC0 RU G28 b28 ⟨a28, i28, k28⟩ y_min y_enumerate y_range
  have G3 := lead_nearest_ok (Pr := l.prog) (w := w) (base := base) (mg := mg) (C := fun i => match i with | 0 => C0 | 1 => C1 | _ => C2) F3 TC0 RU G28 b28 ⟨a28, i28, k28⟩ y_min y_list
  have G29 := T_on_way_ok (Pr := l.prog) (w := w) (base := base) (mg := mg) (C := fun i => match i with | 0 => C0 | 1 => C1 | _ => C2) F29 TC0 RU G28 b28 ⟨a28, i28, k28⟩ 
  have G31 := T_towards_ok (Pr := l.prog) (w := w) (base := base) (mg := mg) (C := fun i => match i with | 0 => C0 | 1 => C1 | _ => C2) F31 TC0 RU G28 b28 ⟨a28, i28, k28⟩ G30 b30 ⟨a30, i30, k30⟩ G7 b7 g7 k7 G26 b26 ⟨a26, i26, k26⟩ G27 b27 ⟨a27, i27, k27⟩ 
  have G0 := sees_ok (Pr := l.prog) (w := w) (base := base) (mg := mg) (C := fun i => match i with | 0 => C0 | 1 => C1 | _ => C2) F0 TC0 RU G29 b29 ⟨a29, i29, k29⟩ y_enumerate
  have G1 := seers_ok (Pr := l.prog) (w := w) (base := base) (mg := mg) (C := fun i => match i with | 0 => C0 | 1 => C1 | _ => C2) F1 TC0 RU G0 b0 g0 k0 y_range y_len
  have G4 := lead_both_ok (Pr := l.prog) (w := w) (base := base) (mg := mg) (C := fun i => match i with | 0 => C0 | 1 => C1 | _ => C2) F4 TC0 RU G1 b1 g1 k1 G2 b2 g2 k2 G31 b31 ⟨a31, i31, k31⟩ y_list y_len
  have G5 := lead_ok (Pr := l.prog) (w := w) (base := base) (mg := mg) (C := fun i => match i with | 0 => C0 | 1 => C1 | _ => C2) F5 TC0 RU G4 b4 g4 k4 G3 b3 g3 k3 y_isinstance
  have G6 := run_ok (Pr := l.prog) (w := w) (base := base) (mg := mg) (C := fun i => match i with | 0 => C0 | 1 => C1 | _ => C2) F6 TC0 RU G5 b5 g5 k5 y_list
  have G23 := law_ok (Pr := l.prog) (w := w) (base := base) (mg := mg) (C := fun i => match i with | 0 => C0 | 1 => C1 | _ => C2) F23 TC0 RU G10 b10 g10 k10 G11 b11 g11 k11 G13 b13 g13 k13 G15 b15 g15 k15 G16 b16 g16 k16 G24 b24 ⟨mk, a24, i24, kc⟩ gT G6 b6 g6 k6 G5 b5 g5 k5 G21 b21 g21 k21 G22 b22 g22 k22 y_list y_len
  exact G23
end Lw
namespace Lw
open PySem PySem.Spec L2 Sm
set_option synthInstance.maxHeartbeats 4000000
set_option synthInstance.maxSize 1000000
/-! ### is_integer -/
noncomputable def is_integer_f (value_0 : Int) : Option Bool := some true
abbrev is_integer_val : Bool → Bool := fun w => w
abbrev is_integer_emb : Bool → Env is_integer_ps := fun w => (none, ())
theorem is_integer_sim (value_0 : Int) : Sim (is_integer_f value_0) (bodyF (ps := is_integer_ps) (ls := is_integer_ls) is_integer_m) ((some value_0, ()) : Env is_integer_ps) is_integer_val is_integer_emb := Sim.body (ps := is_integer_ps) (ls := is_integer_ls) (show SS (αs := is_integer_T) is_integer_m (ext is_integer_ls is_integer_ps ((some value_0, ()) : Env is_integer_ps)) (is_integer_f value_0) (Wf (ps := is_integer_ps) (ls := is_integer_ls) is_integer_val is_integer_emb) from (SS.of (SX.sret (SX.val (VX.and (VX.t1 (VX.v rfl) rfl) (VX.t1 (VX.t1 (VX.v rfl) rfl) rfl)) (Wf.mk (ps := is_integer_ps) (ls := is_integer_ls) (val := is_integer_val) (emb := is_integer_emb) (w := true) ⟨.inl rfl, trivial⟩)))))
/-! ### _law_mixed -/
noncomputable def l_mixed_f (cell_0 : Int) : Option Int := (imod cell_0 (2305843009213693907 : Int)).bind fun x_1 => (rng (10 : Int)).bind fun x_4 => (forM (fun (s_2 : (Int × Int)) (k_3 : Int) => (imul s_2.1 s_2.1).bind fun x_5 => (imul x_5 (5 : Int)).bind fun x_6 => (imul s_2.1 (7907 : Int)).bind fun x_7 => (imul k_3 (1299709 : Int)).bind fun x_8 => (imod (((x_6 + x_7) + x_8) + (17 : Int)) (2305843009213693951 : Int)).bind fun x_9 => (imul s_2.2 (2305843009213693951 : Int)).bind fun x_10 => some (x_9, (x_10 + x_9))) x_4 ((x_1 + (2 : Int)), (0 : Int))).bind fun s_2 => some s_2.2
abbrev l_mixed_val : Int → Int := fun w => w
abbrev l_mixed_emb : Int → Env l_mixed_ps := fun w => (none, ())
theorem l_mixed_sim (cell_0 : Int) : Sim (l_mixed_f cell_0) (bodyF (ps := l_mixed_ps) (ls := l_mixed_ls) l_mixed_m) ((some cell_0, ()) : Env l_mixed_ps) l_mixed_val l_mixed_emb := Sim.body (ps := l_mixed_ps) (ls := l_mixed_ls) (show SS (αs := l_mixed_T) l_mixed_m (ext l_mixed_ls l_mixed_ps ((some cell_0, ()) : Env l_mixed_ps)) (l_mixed_f cell_0) (Wf (ps := l_mixed_ps) (ls := l_mixed_ls) l_mixed_val l_mixed_emb) from (SS.seqX (SX.asg (SX.t2 (SX.p2 (SX.val (VX.t1 (VX.v rfl) rfl) (SX.val VX.c ⟨_, rfl, fun x_1 => (SX.val VX.c ⟨_, rfl, (SS.seqX (SX.asg (SX.val VX.c (SS.seq (SS.forM (αs := l_mixed_T) (fun (s_2 : (Int × Int)) => ((some cell_0, some s_2.1, some s_2.2, none, none, ()) : Env l_mixed_T)) (SX.p1 (SX.val VX.c ⟨_, rfl, fun x_4 => ⟨_, _, _, rfl, ⟨.inr rfl, .inr rfl, .inr rfl, .inl rfl, .inl rfl, trivial⟩, fun s_2 k_3 => (SS.of (SX.seq (SX.asg (SX.t2 (SX.p2 (SX.p2 (SX.val (VX.v rfl) (SX.val (VX.v rfl) ⟨_, rfl, fun x_5 => (SX.val VX.c ⟨_, rfl, fun x_6 => (SX.p2 (SX.val (VX.v rfl) (SX.val VX.c ⟨_, rfl, fun x_7 => ⟨_, rfl, (SX.seq (SX.asg (SX.p2 (SX.t1 (SX.t2 (SX.t2 (SX.val (VX.v rfl) (SX.p2 (SX.val (VX.v rfl) (SX.val VX.c ⟨_, rfl, fun x_8 => ⟨_, rfl, (SX.val VX.c ⟨_, rfl, ⟨_, rfl, (SX.val VX.c ⟨_, rfl, fun x_9 => (SX.asg (SX.t2 (SX.p2 (SX.val (VX.v rfl) (SX.val VX.c ⟨_, rfl, fun x_10 => (SX.val (VX.v rfl) ⟨_, rfl, (WM.mk (.inl rfl) ⟨.inr rfl, .inr rfl, .inr rfl, .inl rfl, .inl rfl, trivial⟩)⟩)⟩)))))⟩)⟩⟩)⟩⟩))))))))))⟩⟩)))⟩)⟩)))))))), fun s_2 => (SS.of (SX.sret (SX.val (VX.v rfl) (Wf.mk (ps := l_mixed_ps) (ls := l_mixed_ls) (val := l_mixed_val) (emb := l_mixed_emb) (w := s_2.2) ⟨.inl rfl, trivial⟩))))⟩⟩)))))))⟩)⟩)))))))
/-! ### _law_pick -/
noncomputable def l_pick_f (source_0 : List Int) (size_0 : Int) : Option (Int × List Int) := (idx source_0 (0 : Int)).bind fun x_1 => (imod x_1 size_0).bind fun x_2 => (idx source_0 (0 : Int)).bind fun x_3 => (idiv x_3 size_0).bind fun x_4 => (setAt source_0 (0 : Int) x_4).bind fun source_5 => some (x_2, source_5)
abbrev l_pick_val : (Int × List Int) → Int := fun w => w.1
abbrev l_pick_emb : (Int × List Int) → Env l_pick_ps := fun w => (some w.2, none, ())
theorem l_pick_sim (source_0 : List Int) (size_0 : Int) : Sim (l_pick_f source_0 size_0) (bodyF (ps := l_pick_ps) (ls := l_pick_ls) l_pick_m) ((some source_0, some size_0, ()) : Env l_pick_ps) l_pick_val l_pick_emb := Sim.body (ps := l_pick_ps) (ls := l_pick_ls) (show SS (αs := l_pick_T) l_pick_m (ext l_pick_ls l_pick_ps ((some source_0, some size_0, ()) : Env l_pick_ps)) (l_pick_f source_0 size_0) (Wf (ps := l_pick_ps) (ls := l_pick_ls) l_pick_val l_pick_emb) from (SS.of (SX.seq (SX.asg (SX.p2 (SX.t1 (SX.p2 (SX.val (VX.v rfl) (SX.val VX.c ⟨_, rfl, fun x_1 => ⟨_, rfl, (SX.val (VX.v rfl) ⟨_, rfl, fun x_2 => (SX.seq (SX.setI (SX.p2 (SX.p2 (SX.val (VX.v rfl) (SX.val VX.c ⟨_, rfl, fun x_3 => (SX.val (VX.v rfl) ⟨_, rfl, fun x_4 => ⟨⟨_, rfl⟩, (SX.val VX.c ⟨_, rfl, _, rfl, fun source_5 => (SX.sret (SX.val (VX.v rfl) (Wf.mk (ps := l_pick_ps) (ls := l_pick_ls) (val := l_pick_val) (emb := l_pick_emb) (w := (x_2, source_5)) ⟨.inr rfl, ⟨.inl rfl, trivial⟩⟩)))⟩)⟩⟩)⟩))))))⟩)⟩⟩)))))))))
/-! ### _law_is_integer -/
noncomputable def l_is_integer_f (actual_0 : Int) : Option Bool := some true
abbrev l_is_integer_val : Bool → Bool := fun w => w
abbrev l_is_integer_emb : Bool → Env l_is_integer_ps := fun w => (none, ())
theorem l_is_integer_sim (actual_0 : Int) : Sim (l_is_integer_f actual_0) (bodyF (ps := l_is_integer_ps) (ls := l_is_integer_ls) l_is_integer_m) ((some actual_0, ()) : Env l_is_integer_ps) l_is_integer_val l_is_integer_emb := Sim.body (ps := l_is_integer_ps) (ls := l_is_integer_ls) (show SS (αs := l_is_integer_T) l_is_integer_m (ext l_is_integer_ls l_is_integer_ps ((some actual_0, ()) : Env l_is_integer_ps)) (l_is_integer_f actual_0) (Wf (ps := l_is_integer_ps) (ls := l_is_integer_ls) l_is_integer_val l_is_integer_emb) from (SS.of (SX.sret (SX.val (VX.and (VX.t1 (VX.v rfl) rfl) (VX.t1 (VX.t1 (VX.v rfl) rfl) rfl)) (Wf.mk (ps := l_is_integer_ps) (ls := l_is_integer_ls) (val := l_is_integer_val) (emb := l_is_integer_emb) (w := true) ⟨.inl rfl, trivial⟩)))))
/-! ### _law_far -/
noncomputable def l_far_f (roads_0 : List (Int × Int)) (one_0 : (Int × Int)) (other_0 : (Int × Int)) : Option Int := (imul (2 : Int) (roads_0.length : Int)).bind fun x_3 => (rng (x_3 + (2 : Int))).bind fun x_4 => (forL (fun (s_1 : (Int × Int × Int × Int × Int)) (k_2 : Int) => (if (decide (s_1.2.1 = s_1.2.2.2.1)) = true then (some (s_1.1 + (if (s_1.2.2.1 - s_1.2.2.2.2) < 0 then -(s_1.2.2.1 - s_1.2.2.2.2) else (s_1.2.2.1 - s_1.2.2.2.2)))).bind fun x_5 => some (.rt x_5) else if (decide (s_1.2.2.2.1 < s_1.2.1)) = true then (idx roads_0 (s_1.2.1 - (1 : Int))).bind fun x_6 => (idx roads_0 (s_1.2.1 - (1 : Int))).bind fun x_7 => some (.nx (((s_1.1 + x_6.2) - s_1.2.2.1), x_7.1, (0 : Int), s_1.2.2.2.1, s_1.2.2.2.2)) else (idx roads_0 (s_1.2.2.2.1 - (1 : Int))).bind fun x_8 => (idx roads_0 (s_1.2.2.2.1 - (1 : Int))).bind fun x_9 => some (.nx (((s_1.1 + x_8.2) - s_1.2.2.2.2), s_1.2.1, s_1.2.2.1, x_9.1, (0 : Int))) : Option (Lp (Int × Int × Int × Int × Int) Int))) x_4 ((0 : Int), one_0.1, one_0.2, other_0.1, other_0.2)).bind (Lp.elim (fun s_1 => some s_1.1) (fun r_10 => some r_10))
abbrev l_far_val : Int → Int := fun w => w
abbrev l_far_emb : Int → Env l_far_ps := fun w => (none, none, none, ())
theorem l_far_sim (roads_0 : List (Int × Int)) (one_0 : (Int × Int)) (other_0 : (Int × Int)) : Sim (l_far_f roads_0 one_0 other_0) (bodyF (ps := l_far_ps) (ls := l_far_ls) l_far_m) ((some roads_0, some one_0, some other_0, ()) : Env l_far_ps) l_far_val l_far_emb := Sim.body (ps := l_far_ps) (ls := l_far_ls) (show SS (αs := l_far_T) l_far_m (ext l_far_ls l_far_ps ((some roads_0, some one_0, some other_0, ()) : Env l_far_ps)) (l_far_f roads_0 one_0 other_0) (Wf (ps := l_far_ps) (ls := l_far_ls) l_far_val l_far_emb) from (SS.seqX (SX.asg (SX.val VX.c (SS.seqX (SX.asgG (SX.val (VX.v rfl) (SS.seqX (SX.asgG (SX.val (VX.v rfl) (SS.seq (SS.forL (αs := l_far_T) (fun (s_1 : (Int × Int × Int × Int × Int)) => ((some roads_0, some one_0, some other_0, some s_1.1, none, some s_1.2.1, some s_1.2.2.1, some s_1.2.2.2.1, some s_1.2.2.2.2, ()) : Env l_far_T)) l_far_val (fun w => ext l_far_ls l_far_ps (l_far_emb w)) (SX.p1 (SX.t2 (SX.p2 (SX.val VX.c (SX.val (VX.t1 (VX.v rfl) rfl) ⟨_, rfl, fun x_3 => (SX.val VX.c ⟨_, rfl, ⟨_, rfl, fun x_4 => ⟨_, _, _, _, rfl, ⟨.inr rfl, .inr rfl, .inr rfl, .inr rfl, .inl rfl, .inr rfl, .inr rfl, .inr rfl, .inr rfl, trivial⟩, fun s_1 k_2 => (SS.of (SX.seq (SX.sif (SX.val (VX.t2 (VX.v rfl) (VX.v rfl) rfl) ⟨_, _, rfl, (SX.sret (SX.nm (VX.t2 (VX.v rfl) (VX.t1 (VX.t2 (VX.v rfl) (VX.v rfl) rfl) rfl) rfl) ⟨_, rfl, fun x_5 => (WL.rtI (αs := l_far_T) (val := l_far_val) (embR := (fun w => ext l_far_ls l_far_ps (l_far_emb w))) (r := x_5) (Le.ext ⟨.inl rfl, ⟨.inl rfl, ⟨.inl rfl, trivial⟩⟩⟩))⟩)), (SX.skip (SX.sif (SX.val (VX.t2 (VX.v rfl) (VX.v rfl) (igt_eq _ _)) ⟨_, _, rfl, (SX.seq (SX.asg (SX.t2 (SX.t2 (SX.val (VX.v rfl) (SX.t1 (SX.p2 (SX.val (VX.v rfl) (SX.val (VX.t2 (VX.v rfl) VX.c rfl) ⟨_, rfl, fun x_6 => ⟨_, rfl, ⟨_, rfl, (SX.val (VX.v rfl) ⟨_, rfl, (SX.par (SX.t1 (SX.p2 (SX.val (VX.v rfl) (SX.val (VX.t2 (VX.v rfl) VX.c rfl) ⟨_, rfl, fun x_7 => ⟨_, rfl, (SX.val VX.c (WL.nxI (.inl rfl) ⟨.inr rfl, .inr rfl, .inr rfl, .inr rfl, .inl rfl, .inr rfl, .inr rfl, .inr rfl, .inr rfl, trivial⟩))⟩⟩)))))⟩)⟩⟩⟩))))))))), (SX.seq (SX.asg (SX.t2 (SX.t2 (SX.val (VX.v rfl) (SX.t1 (SX.p2 (SX.val (VX.v rfl) (SX.val (VX.t2 (VX.v rfl) VX.c rfl) ⟨_, rfl, fun x_8 => ⟨_, rfl, ⟨_, rfl, (SX.val (VX.v rfl) ⟨_, rfl, (SX.par (SX.t1 (SX.p2 (SX.val (VX.v rfl) (SX.val (VX.t2 (VX.v rfl) VX.c rfl) ⟨_, rfl, fun x_9 => ⟨_, rfl, (SX.val VX.c (WL.nxI (.inl rfl) ⟨.inr rfl, .inr rfl, .inr rfl, .inr rfl, .inl rfl, .inr rfl, .inr rfl, .inr rfl, .inr rfl, trivial⟩))⟩⟩)))))⟩)⟩⟩⟩)))))))))⟩)))⟩)))), fun s_1 => (SS.of (SX.sret (SX.val (VX.v rfl) (Wf.mk (ps := l_far_ps) (ls := l_far_ls) (val := l_far_val) (emb := l_far_emb) (w := s_1.1) ⟨.inl rfl, ⟨.inl rfl, ⟨.inl rfl, trivial⟩⟩⟩)))), fun r_10 => (Wf.rt (ps := l_far_ps) (ls := l_far_ls) r_10)⟩⟩⟩)⟩)))))))))))))))))
/-! ### Tree.raised -/
noncomputable def T_raised_f (self_0 : TreeD) (point_0 : (Int × Int)) (far_0 : Int) : Option (Int × Int) := (whL (fun (s_1 : (Int × Int × Int)) => (if (decide ((0 : Int) < s_1.2.1)) = true then (idx self_0.ls s_1.2.1).bind fun x_2 => some (decide (x_2 ≤ (s_1.2.2 + s_1.1))) else some false).bind fun b_3 => some b_3) (fun s_1 => ((idx self_0.ls s_1.2.1).bind fun x_4 => (idx self_0.ps s_1.2.1).bind fun x_5 => some (.nx ((s_1.1 - (x_4 - s_1.2.2)), x_5, (0 : Int))) : Option (Lp (Int × Int × Int) (Int × Int)))) (far_0, point_0.1, point_0.2)).bind (Lp.elim (fun s_1 => some (s_1.2.1, (s_1.2.2 + s_1.1))) (fun r_6 => some r_6))
abbrev T_raised_val : (Int × Int) → (Int × Int) := fun w => w
abbrev T_raised_emb : (Int × Int) → Env T_raised_ps := fun w => (none, none, none, ())
theorem T_raised_sim (self_0 : TreeD) (point_0 : (Int × Int)) (far_0 : Int) : Sim (T_raised_f self_0 point_0 far_0) (bodyF (ps := T_raised_ps) (ls := T_raised_ls) T_raised_m) ((some self_0, some point_0, some far_0, ()) : Env T_raised_ps) T_raised_val T_raised_emb := Sim.body (ps := T_raised_ps) (ls := T_raised_ls) (show SS (αs := T_raised_T) T_raised_m (ext T_raised_ls T_raised_ps ((some self_0, some point_0, some far_0, ()) : Env T_raised_ps)) (T_raised_f self_0 point_0 far_0) (Wf (ps := T_raised_ps) (ls := T_raised_ls) T_raised_val T_raised_emb) from (SS.seqX (SX.asgG (SX.val (VX.v rfl) (SS.seq (SS.whL (αs := T_raised_T) (fun (s_1 : (Int × Int × Int)) => ((some self_0, some point_0, some s_1.1, some s_1.2.1, some s_1.2.2, ()) : Env T_raised_T)) T_raised_val (fun w => ext T_raised_ls T_raised_ps (T_raised_emb w)) ⟨.inr rfl, .inr rfl, .inr rfl, .inr rfl, .inr rfl, trivial⟩ (fun s_1 => (SX.and (SX.val (VX.t2 (VX.v rfl) VX.c (igt_eq _ _)) ⟨_, _, rfl, (SX.t2 (SX.val (VX.t2 (VX.v rfl) (VX.v rfl) rfl) (SX.p2 (SX.val (VX.t1 (VX.v rfl) rfl) (SX.val (VX.v rfl) ⟨_, rfl, fun x_2 => ⟨_, ige_eq _ _, ⟨rfl, rfl⟩⟩⟩))))), fun b_3 => ⟨rfl, rfl⟩⟩))) (fun s_1 => (SS.of (SX.seq (SX.asg (SX.t2 (SX.val (VX.v rfl) (SX.t2 (SX.p2 (SX.val (VX.t1 (VX.v rfl) rfl) (SX.val (VX.v rfl) ⟨_, rfl, fun x_4 => (SX.val (VX.v rfl) ⟨_, rfl, ⟨_, rfl, (SX.par (SX.p2 (SX.val (VX.t1 (VX.v rfl) rfl) (SX.val (VX.v rfl) ⟨_, rfl, fun x_5 => (SX.val VX.c (WL.nxI (.inl rfl) ⟨.inr rfl, .inr rfl, .inr rfl, .inr rfl, .inr rfl, trivial⟩))⟩))))⟩⟩)⟩)))))))))) (fun s_1 => (SS.of (SX.sret (SX.val (VX.t2 (VX.v rfl) (VX.t2 (VX.v rfl) (VX.v rfl) rfl) rfl) (Wf.mk (ps := T_raised_ps) (ls := T_raised_ls) (val := T_raised_val) (emb := T_raised_emb) (w := (s_1.2.1, (s_1.2.2 + s_1.1))) ⟨.inl rfl, ⟨.inl rfl, ⟨.inl rfl, trivial⟩⟩⟩))))) (fun r_6 => (Wf.rt (ps := T_raised_ps) (ls := T_raised_ls) r_6))))))))
/-! ### is_pair -/
noncomputable def is_pair_f (value_0 : (Int × Int)) : Option Bool := (is_integer_f value_0.1).bind fun y_1 => (if y_1 = true then (is_integer_f value_0.2).bind fun y_2 => some y_2 else some false).bind fun b_3 => some b_3
abbrev is_pair_val : Bool → Bool := fun w => w
abbrev is_pair_emb : Bool → Env is_pair_ps := fun w => (none, ())
theorem is_pair_sim (value_0 : (Int × Int)) : Sim (is_pair_f value_0) (bodyF (ps := is_pair_ps) (ls := is_pair_ls) is_pair_m) ((some value_0, ()) : Env is_pair_ps) is_pair_val is_pair_emb := Sim.body (ps := is_pair_ps) (ls := is_pair_ls) (show SS (αs := is_pair_T) is_pair_m (ext is_pair_ls is_pair_ps ((some value_0, ()) : Env is_pair_ps)) (is_pair_f value_0) (Wf (ps := is_pair_ps) (ls := is_pair_ls) is_pair_val is_pair_emb) from (SS.of (SX.sret (SX.andT (SX.val (VX.t1 (VX.v rfl) rfl) ⟨rfl, (SX.andT (SX.val (VX.t2 (VX.t1 (VX.v rfl) rfl) VX.c rfl) ⟨rfl, (SX.and (SX.call (SX.aV (SX.val (VX.t1 (VX.v rfl) rfl) (SX.aNil ⟨_, _, _, _, rfl, (is_integer_sim _), fun _ => (Full.v Full.nil), fun y_1 => ⟨_, _, rfl, (SX.call (SX.aV (SX.val (VX.t1 (VX.v rfl) rfl) (SX.aNil ⟨_, _, _, _, rfl, (is_integer_sim _), fun _ => (Full.v Full.nil), fun y_2 => ⟨rfl, rfl⟩⟩)))), fun b_3 => (Wf.mk (ps := is_pair_ps) (ls := is_pair_ls) (val := is_pair_val) (emb := is_pair_emb) (w := b_3) ⟨.inl rfl, trivial⟩)⟩⟩)))))⟩))⟩)))))
/-! ### _law_source -/
noncomputable def l_source_f (script_0 : List Int) : Option (List Int) := (forM (fun (s_1 : Int) (cell_2 : Int) => (ipow (10 : Int) (18 : Int)).bind fun x_3 => if (decide (x_3 ≤ cell_2)) = true then (imul s_1 (1000003 : Int)).bind fun x_4 => (ipow (10 : Int) (18 : Int)).bind fun x_5 => some (x_4 + (cell_2 - x_5)) else (imul s_1 (1000003 : Int)).bind fun x_6 => (l_mixed_f cell_2).bind fun y_7 => some (x_6 + y_7)) script_0 (0 : Int)).bind fun s_1 => some (s_1 :: ([] : List Int))
abbrev l_source_val : (List Int) → (List Int) := fun w => w
abbrev l_source_emb : (List Int) → Env l_source_ps := fun w => (none, ())
theorem l_source_sim (script_0 : List Int) : Sim (l_source_f script_0) (bodyF (ps := l_source_ps) (ls := l_source_ls) l_source_m) ((some script_0, ()) : Env l_source_ps) l_source_val l_source_emb := Sim.body (ps := l_source_ps) (ls := l_source_ls) (show SS (αs := l_source_T) l_source_m (ext l_source_ls l_source_ps ((some script_0, ()) : Env l_source_ps)) (l_source_f script_0) (Wf (ps := l_source_ps) (ls := l_source_ls) l_source_val l_source_emb) from (SS.seqX (SX.asg (SX.val VX.c (SS.seq (SS.forM (αs := l_source_T) (fun (s_1 : Int) => ((some script_0, some s_1, none, ()) : Env l_source_T)) (SX.val (VX.v rfl) ⟨_, _, _, rfl, ⟨.inr rfl, .inr rfl, .inl rfl, trivial⟩, fun s_1 cell_2 => (SS.of (SX.sif (SX.t2 (SX.val (VX.v rfl) (SX.p2 (SX.val VX.c (SX.val VX.c ⟨_, rfl, fun x_3 => ⟨_, ige_eq _ _, ⟨_, _, rfl, (SX.asg (SX.t2 (SX.p2 (SX.val (VX.v rfl) (SX.val VX.c ⟨_, rfl, fun x_4 => (SX.t2 (SX.val (VX.v rfl) (SX.p2 (SX.val VX.c (SX.val VX.c ⟨_, rfl, fun x_5 => ⟨_, rfl, ⟨_, rfl, (WM.mk (.inl rfl) ⟨.inr rfl, .inr rfl, .inl rfl, trivial⟩)⟩⟩⟩)))))⟩))))), (SX.asg (SX.t2 (SX.p2 (SX.val (VX.v rfl) (SX.val VX.c ⟨_, rfl, fun x_6 => (SX.call (SX.aV (SX.val (VX.v rfl) (SX.aNil ⟨_, _, _, _, rfl, (l_mixed_sim _), fun _ => (Full.v Full.nil), fun y_7 => ⟨_, rfl, (WM.mk (.inl rfl) ⟨.inr rfl, .inr rfl, .inl rfl, trivial⟩)⟩⟩))))⟩)))))⟩⟩⟩))))))), fun s_1 => (SS.of (SX.sret (SX.val (VX.lstN 1 (VX.t2 (VX.v rfl) VX.c rfl) rfl (by decide)) (Wf.mk (ps := l_source_ps) (ls := l_source_ls) (val := l_source_val) (emb := l_source_emb) (w := (s_1 :: ([] : List Int))) ⟨.inl rfl, trivial⟩))))⟩)))))))
/-! ### _law_roads -/
noncomputable def l_roads_f (source_0 : List Int) (least_0 : Int) : Option ((List (Int × Int)) × List Int) := (l_pick_f source_0 (4 : Int)).bind fun w_1 => (idx ((6 : Int) :: ((2 : Int) :: ((40 : Int) :: ((1 : Int) :: ([] : List Int))))) w_1.1).bind fun x_2 => (l_pick_f w_1.2 (4 : Int)).bind fun w_3 => (l_pick_f w_3.2 (3 : Int)).bind fun w_4 => (l_pick_f w_4.2 x_2).bind fun w_5 => (l_pick_f w_5.2 ((10 : Int) - least_0)).bind fun w_8 => (rng2 (1 : Int) (((1 : Int) + least_0) + w_8.1)).bind fun x_9 => (forM (fun (s_6 : (List Int × List (Int × Int))) (v_7 : Int) => (l_pick_f s_6.1 x_2).bind fun w_10 => (if (decide (w_4.1 = (2 : Int))) = true then some ((1 : Int) + w_5.1) else some ((1 : Int) + w_10.1) : Option Int).bind fun j_11 => (l_pick_f w_10.2 v_7).bind fun w_12 => (if (decide (w_3.1 = (1 : Int))) = true then some (0 : Int) else some w_12.1 : Option Int).bind fun j_13 => (if (decide (w_3.1 = (2 : Int))) = true then some (v_7 - (1 : Int)) else some j_13 : Option Int).bind fun j_14 => (appO s_6.2 (j_14, j_11)).bind fun roads_15 => some (w_12.2, roads_15)) x_9 (w_8.2, ([] : List (Int × Int)))).bind fun s_6 => some (s_6.2, s_6.1)
abbrev l_roads_val : ((List (Int × Int)) × List Int) → (List (Int × Int)) := fun w => w.1
abbrev l_roads_emb : ((List (Int × Int)) × List Int) → Env l_roads_ps := fun w => (some w.2, none, ())
theorem l_roads_sim (source_0 : List Int) (least_0 : Int) : Sim (l_roads_f source_0 least_0) (bodyF (ps := l_roads_ps) (ls := l_roads_ls) l_roads_m) ((some source_0, some least_0, ()) : Env l_roads_ps) l_roads_val l_roads_emb := Sim.body (ps := l_roads_ps) (ls := l_roads_ls) (show SS (αs := l_roads_T) l_roads_m (ext l_roads_ls l_roads_ps ((some source_0, some least_0, ()) : Env l_roads_ps)) (l_roads_f source_0 least_0) (Wf (ps := l_roads_ps) (ls := l_roads_ls) l_roads_val l_roads_emb) from (SS.seqX (SX.asg (SX.p2 (SX.val (VX.lstN 4 (VX.t2 VX.c (VX.t2 VX.c (VX.t2 VX.c (VX.t2 VX.c VX.c rfl) rfl) rfl) rfl) rfl (by decide)) (SX.call (SX.aM rfl (SX.aV (SX.val VX.c (SX.aNil ⟨_, rfl, ⟨_, _, _, _, rfl, (l_pick_sim _ _), fun _ => (Full.m rfl (Full.v Full.nil)), fun w_1 => ⟨_, rfl, fun x_2 => (SS.seqX (SX.asg (SX.call (SX.aM rfl (SX.aV (SX.val VX.c (SX.aNil ⟨_, rfl, ⟨_, _, _, _, rfl, (l_pick_sim _ _), fun _ => (Full.m rfl (Full.v Full.nil)), fun w_3 => (SS.seqX (SX.asg (SX.call (SX.aM rfl (SX.aV (SX.val VX.c (SX.aNil ⟨_, rfl, ⟨_, _, _, _, rfl, (l_pick_sim _ _), fun _ => (Full.m rfl (Full.v Full.nil)), fun w_4 => (SS.seqX (SX.asg (SX.t2 (SX.val VX.c (SX.call (SX.aM rfl (SX.aV (SX.val (VX.v rfl) (SX.aNil ⟨_, rfl, ⟨_, _, _, _, rfl, (l_pick_sim _ _), fun _ => (Full.m rfl (Full.v Full.nil)), fun w_5 => ⟨_, rfl, (SS.seqX (SX.asg (SX.val (VX.lstN 0 VX.c rfl (by decide)) (SS.seq (SS.forM (αs := l_roads_T) (fun (s_6 : (List Int × List (Int × Int))) => ((some s_6.1, some least_0, some x_2, some w_3.1, some w_4.1, some ((1 : Int) + w_5.1), some s_6.2, none, none, none, ()) : Env l_roads_T)) (SX.p2 (SX.val VX.c (SX.t2 (SX.val (VX.t2 VX.c (VX.v rfl) rfl) (SX.call (SX.aM rfl (SX.aV (SX.val (VX.t2 VX.c (VX.v rfl) rfl) (SX.aNil ⟨_, rfl, ⟨_, _, _, _, rfl, (l_pick_sim _ _), fun _ => (Full.m rfl (Full.v Full.nil)), fun w_8 => ⟨_, rfl, ⟨_, rfl, fun x_9 => ⟨_, _, _, rfl, ⟨.inr rfl, .inr rfl, .inr rfl, .inr rfl, .inr rfl, .inr rfl, .inr rfl, .inl rfl, .inl rfl, .inl rfl, trivial⟩, fun s_6 v_7 => (SS.seqX (SX.asg (SX.t2 (SX.val VX.c (SX.call (SX.aM rfl (SX.aV (SX.val (VX.v rfl) (SX.aNil ⟨_, rfl, ⟨_, _, _, _, rfl, (l_pick_sim _ _), fun _ => (Full.m rfl (Full.v Full.nil)), fun w_10 => ⟨_, rfl, (SS.join (αs := l_roads_T) (fun (j_11 : Int) => ((some w_10.2, some least_0, some x_2, some w_3.1, some w_4.1, some ((1 : Int) + w_5.1), some s_6.2, some v_7, some j_11, none, ()) : Env l_roads_T)) (SS.of (SX.sif (SX.val (VX.t2 (VX.v rfl) VX.c rfl) ⟨_, _, rfl, (SX.asg (SX.val (VX.v rfl) ⟨_, rfl, rfl, ⟨.inr rfl, .inr rfl, .inr rfl, .inr rfl, .inr rfl, .inr rfl, .inr rfl, .inr rfl, .inr rfl, .inl rfl, trivial⟩⟩)), (SX.skip ⟨_, rfl, rfl, ⟨.inr rfl, .inr rfl, .inr rfl, .inr rfl, .inr rfl, .inr rfl, .inr rfl, .inr rfl, .inr rfl, .inl rfl, trivial⟩⟩)⟩))) fun j_11 => (SS.seqX (SX.asg (SX.call (SX.aM rfl (SX.aV (SX.val (VX.v rfl) (SX.aNil ⟨_, rfl, ⟨_, _, _, _, rfl, (l_pick_sim _ _), fun _ => (Full.m rfl (Full.v Full.nil)), fun w_12 => (SS.join (αs := l_roads_T) (fun (j_13 : Int) => ((some w_12.2, some least_0, some x_2, some w_3.1, some w_4.1, some ((1 : Int) + w_5.1), some s_6.2, some v_7, some j_11, some j_13, ()) : Env l_roads_T)) (SS.of (SX.sif (SX.val (VX.t2 (VX.v rfl) VX.c rfl) ⟨_, _, rfl, (SX.asg (SX.val VX.c ⟨_, rfl, rfl, ⟨.inr rfl, .inr rfl, .inr rfl, .inr rfl, .inr rfl, .inr rfl, .inr rfl, .inr rfl, .inr rfl, .inr rfl, trivial⟩⟩)), (SX.skip ⟨_, rfl, rfl, ⟨.inr rfl, .inr rfl, .inr rfl, .inr rfl, .inr rfl, .inr rfl, .inr rfl, .inr rfl, .inr rfl, .inr rfl, trivial⟩⟩)⟩))) fun j_13 => (SS.join (αs := l_roads_T) (fun (j_14 : Int) => ((some w_12.2, some least_0, some x_2, some w_3.1, some w_4.1, some ((1 : Int) + w_5.1), some s_6.2, some v_7, some j_11, some j_14, ()) : Env l_roads_T)) (SS.of (SX.sif (SX.val (VX.t2 (VX.v rfl) VX.c rfl) ⟨_, _, rfl, (SX.asg (SX.val (VX.t2 (VX.v rfl) VX.c rfl) ⟨_, rfl, rfl, ⟨.inr rfl, .inr rfl, .inr rfl, .inr rfl, .inr rfl, .inr rfl, .inr rfl, .inr rfl, .inr rfl, .inr rfl, trivial⟩⟩)), (SX.skip ⟨_, rfl, rfl, ⟨.inr rfl, .inr rfl, .inr rfl, .inr rfl, .inr rfl, .inr rfl, .inr rfl, .inr rfl, .inr rfl, .inr rfl, trivial⟩⟩)⟩))) fun j_14 => (SS.of (SX.app rfl (SX.val (VX.t2 (VX.v rfl) (VX.v rfl) rfl) ⟨_, rfl, _, rfl, fun roads_15 => (WM.mk (.inl rfl) ⟨.inr rfl, .inr rfl, .inr rfl, .inr rfl, .inr rfl, .inr rfl, .inr rfl, .inl rfl, .inl rfl, .inl rfl, trivial⟩)⟩)))))⟩⟩))))))))⟩⟩⟩))))))))), fun s_6 => (SS.of (SX.sret (SX.val (VX.v rfl) (Wf.mk (ps := l_roads_ps) (ls := l_roads_ls) (val := l_roads_val) (emb := l_roads_emb) (w := (s_6.2, s_6.1)) ⟨.inr rfl, ⟨.inl rfl, trivial⟩⟩))))⟩⟩⟩⟩⟩))))))))))))))⟩⟩⟩)))))))))⟩⟩)))))))⟩⟩)))))))⟩⟩⟩))))))))))
/-! ### _law_point -/
noncomputable def l_point_f (source_0 : List Int) (roads_0 : List (Int × Int)) : Option ((Int × Int) × List Int) := (l_pick_f source_0 (2 : Int)).bind fun w_1 => (l_pick_f w_1.2 ((roads_0.length : Int) + (1 : Int))).bind fun w_2 => if ((decide (w_2.1 = (0 : Int))) || (decide (w_1.1 = (0 : Int)))) = true then some ((w_2.1, (0 : Int)), w_2.2) else (idx roads_0 (w_2.1 - (1 : Int))).bind fun x_3 => (l_pick_f w_2.2 x_3.2).bind fun w_4 => some ((w_2.1, w_4.1), w_4.2)
abbrev l_point_val : ((Int × Int) × List Int) → (Int × Int) := fun w => w.1
abbrev l_point_emb : ((Int × Int) × List Int) → Env l_point_ps := fun w => (some w.2, none, ())
theorem l_point_sim (source_0 : List Int) (roads_0 : List (Int × Int)) : Sim (l_point_f source_0 roads_0) (bodyF (ps := l_point_ps) (ls := l_point_ls) l_point_m) ((some source_0, some roads_0, ()) : Env l_point_ps) l_point_val l_point_emb := Sim.body (ps := l_point_ps) (ls := l_point_ls) (show SS (αs := l_point_T) l_point_m (ext l_point_ls l_point_ps ((some source_0, some roads_0, ()) : Env l_point_ps)) (l_point_f source_0 roads_0) (Wf (ps := l_point_ps) (ls := l_point_ls) l_point_val l_point_emb) from (SS.of (SX.seq (SX.asg (SX.call (SX.aM rfl (SX.aV (SX.val VX.c (SX.aNil ⟨_, rfl, ⟨_, _, _, _, rfl, (l_pick_sim _ _), fun _ => (Full.m rfl (Full.v Full.nil)), fun w_1 => (SX.seq (SX.asg (SX.call (SX.aM rfl (SX.aV (SX.val (VX.t2 (VX.t1 (VX.v rfl) rfl) VX.c rfl) (SX.aNil ⟨_, rfl, ⟨_, _, _, _, rfl, (l_pick_sim _ _), fun _ => (Full.m rfl (Full.v Full.nil)), fun w_2 => (SX.seq (SX.sif (SX.val (VX.or (VX.t2 (VX.v rfl) VX.c rfl) (VX.t2 (VX.v rfl) VX.c rfl)) ⟨_, _, rfl, (SX.sret (SX.val (VX.t2 (VX.v rfl) VX.c rfl) (Wf.mk (ps := l_point_ps) (ls := l_point_ls) (val := l_point_val) (emb := l_point_emb) (w := ((w_2.1, (0 : Int)), w_2.2)) ⟨.inr rfl, ⟨.inl rfl, trivial⟩⟩))), (SX.skip (SX.sret (SX.t2 (SX.val (VX.v rfl) (SX.call (SX.aM rfl (SX.aV (SX.t1 (SX.p2 (SX.val (VX.v rfl) (SX.val (VX.t2 (VX.v rfl) VX.c rfl) ⟨_, rfl, fun x_3 => ⟨_, rfl, (SX.aNil ⟨_, rfl, ⟨_, _, _, _, rfl, (l_pick_sim _ _), fun _ => (Full.m rfl (Full.v Full.nil)), fun w_4 => ⟨_, rfl, (Wf.mk (ps := l_point_ps) (ls := l_point_ls) (val := l_point_val) (emb := l_point_emb) (w := ((w_2.1, w_4.1), w_4.2)) ⟨.inr rfl, ⟨.inl rfl, trivial⟩⟩)⟩⟩⟩)⟩⟩)))))))))))⟩)))⟩⟩)))))))⟩⟩)))))))))
/-! ### _law_is_point -/
noncomputable def l_is_point_f (roads_0 : List (Int × Int)) (actual_0 : (Int × Int)) : Option Bool := if (!decide ((2 : Int) = (2 : Int))) = true then some false else (l_is_integer_f actual_0.1).bind fun y_1 => (if (!y_1) = true then some true else (l_is_integer_f actual_0.2).bind fun y_2 => some (!y_2)).bind fun b_3 => if b_3 = true then some false else if (decide (actual_0.1 = (0 : Int))) = true then some (decide (actual_0.2 = (0 : Int))) else (if ((decide ((0 : Int) < actual_0.1)) && (decide (actual_0.1 ≤ (roads_0.length : Int)))) = true then (if (decide ((0 : Int) ≤ actual_0.2)) = true then (idx roads_0 (actual_0.1 - (1 : Int))).bind fun x_4 => some (decide (actual_0.2 < x_4.2)) else some false).bind fun b_5 => some b_5 else some false).bind fun b_6 => some b_6
abbrev l_is_point_val : Bool → Bool := fun w => w
abbrev l_is_point_emb : Bool → Env l_is_point_ps := fun w => (none, none, ())
theorem l_is_point_sim (roads_0 : List (Int × Int)) (actual_0 : (Int × Int)) : Sim (l_is_point_f roads_0 actual_0) (bodyF (ps := l_is_point_ps) (ls := l_is_point_ls) l_is_point_m) ((some roads_0, some actual_0, ()) : Env l_is_point_ps) l_is_point_val l_is_point_emb := Sim.body (ps := l_is_point_ps) (ls := l_is_point_ls) (show SS (αs := l_is_point_T) l_is_point_m (ext l_is_point_ls l_is_point_ps ((some roads_0, some actual_0, ()) : Env l_is_point_ps)) (l_is_point_f roads_0 actual_0) (Wf (ps := l_is_point_ps) (ls := l_is_point_ls) l_is_point_val l_is_point_emb) from (SS.of (SX.seq (SX.sif (SX.val (VX.or (VX.t1 (VX.t1 (VX.v rfl) rfl) rfl) (VX.t2 (VX.t1 (VX.v rfl) rfl) VX.c rfl)) ⟨_, _, rfl, (SX.sret (SX.val VX.c (Wf.mk (ps := l_is_point_ps) (ls := l_is_point_ls) (val := l_is_point_val) (emb := l_is_point_emb) (w := false) ⟨.inl rfl, ⟨.inl rfl, trivial⟩⟩))), (SX.skip (SX.seq (SX.sif (SX.or (SX.t1 (SX.call (SX.aV (SX.val (VX.t1 (VX.v rfl) rfl) (SX.aNil ⟨_, _, _, _, rfl, (l_is_integer_sim _), fun _ => (Full.v Full.nil), fun y_1 => ⟨_, rfl, ⟨_, _, rfl, (SX.t1 (SX.call (SX.aV (SX.val (VX.t1 (VX.v rfl) rfl) (SX.aNil ⟨_, _, _, _, rfl, (l_is_integer_sim _), fun _ => (Full.v Full.nil), fun y_2 => ⟨_, rfl, ⟨rfl, rfl⟩⟩⟩))))), fun b_3 => ⟨_, _, rfl, (SX.sret (SX.val VX.c (Wf.mk (ps := l_is_point_ps) (ls := l_is_point_ls) (val := l_is_point_val) (emb := l_is_point_emb) (w := false) ⟨.inl rfl, ⟨.inl rfl, trivial⟩⟩))), (SX.skip (SX.seq (SX.sif (SX.val (VX.t2 (VX.t1 (VX.v rfl) rfl) VX.c rfl) ⟨_, _, rfl, (SX.sret (SX.val (VX.t2 (VX.t1 (VX.v rfl) rfl) VX.c rfl) (Wf.mk (ps := l_is_point_ps) (ls := l_is_point_ls) (val := l_is_point_val) (emb := l_is_point_emb) (w := (decide (actual_0.2 = (0 : Int)))) ⟨.inl rfl, ⟨.inl rfl, trivial⟩⟩))), (SX.skip (SX.sret (SX.and (SX.val (VX.chn VX.c (VX.t1 (VX.v rfl) rfl) (VX.t1 (VX.v rfl) rfl) (ilt_eq _ _) (ile_eq _ _)) ⟨_, _, rfl, (SX.chn (SX.val VX.c (SX.val (VX.t1 (VX.v rfl) rfl) ⟨_, ile_eq _ _, _, _, rfl, (SX.t1 (SX.p2 (SX.val (VX.v rfl) (SX.val (VX.t2 (VX.t1 (VX.v rfl) rfl) VX.c rfl) ⟨_, rfl, fun x_4 => ⟨_, rfl, ⟨rfl, _, ilt_eq _ _, rfl⟩⟩⟩)))), fun b_5 => ⟨rfl, rfl⟩⟩))), fun b_6 => (Wf.mk (ps := l_is_point_ps) (ls := l_is_point_ls) (val := l_is_point_val) (emb := l_is_point_emb) (w := b_6) ⟨.inl rfl, ⟨.inl rfl, trivial⟩⟩)⟩))))⟩))))⟩⟩⟩⟩)))))))))⟩)))))
/-! ### _law_stop -/
noncomputable def l_stop_f (roads_0 : List (Int × Int)) (crew_0 : List (Int × Int)) (call_0 : (Int × Int)) (gone_0 : List Int) (i_0 : Int) : Option Int := (cap crew_0 (lcO (fun (point_1 : (Int × Int)) => some true) (fun point_1 => (l_far_f roads_0 point_1 call_0).bind fun y_2 => some y_2) crew_0)).bind fun ys_3 => (minL ys_3).bind fun x_4 => (rng (crew_0.length : Int)).bind fun x_7 => (forM (fun (s_5 : Int) (j_6 : Int) => (idx crew_0 i_0).bind fun x_8 => (idx crew_0 j_6).bind fun x_9 => (l_far_f roads_0 x_8 x_9).bind fun y_10 => (idx ys_3 i_0).bind fun x_11 => (idx ys_3 j_6).bind fun x_12 => (idiv ((x_11 + y_10) - x_12) (2 : Int)).bind fun x_13 => (idx ys_3 j_6).bind fun x_14 => (idx ys_3 i_0).bind fun x_15 => (idiv ((x_14 + y_10) - x_15) (2 : Int)).bind fun x_16 => (if (!decide (j_6 = i_0)) = true then (idx gone_0 j_6).bind fun x_17 => (if (decide (x_16 ≤ x_17)) = true then some ((decide (x_16 < x_13)) || ((decide (x_16 = x_13)) && (decide (j_6 < i_0)))) else some false).bind fun b_18 => some b_18 else some false).bind fun b_19 => if b_19 = true then some (if x_16 < s_5 then x_16 else s_5) else some s_5) x_7 x_4).bind fun s_5 => some s_5
abbrev l_stop_val : Int → Int := fun w => w
abbrev l_stop_emb : Int → Env l_stop_ps := fun w => (none, none, none, none, none, ())
theorem l_stop_sim (roads_0 : List (Int × Int)) (crew_0 : List (Int × Int)) (call_0 : (Int × Int)) (gone_0 : List Int) (i_0 : Int) : Sim (l_stop_f roads_0 crew_0 call_0 gone_0 i_0) (bodyF (ps := l_stop_ps) (ls := l_stop_ls) l_stop_m) ((some roads_0, some crew_0, some call_0, some gone_0, some i_0, ()) : Env l_stop_ps) l_stop_val l_stop_emb := Sim.body (ps := l_stop_ps) (ls := l_stop_ls) (show SS (αs := l_stop_T) l_stop_m (ext l_stop_ls l_stop_ps ((some roads_0, some crew_0, some call_0, some gone_0, some i_0, ()) : Env l_stop_ps)) (l_stop_f roads_0 crew_0 call_0 gone_0 i_0) (Wf (ps := l_stop_ps) (ls := l_stop_ls) l_stop_val l_stop_emb) from (SS.seqX (SX.asg (SX.lcO (fun _ _ => own1) (SX.val (VX.v rfl) ⟨_, _, _, rfl, fun point_1 => (SX.val VX.c ⟨rfl, rfl⟩), fun point_1 => (SX.call (SX.aV (SX.val (VX.v rfl) (SX.aV (SX.val (VX.v rfl) (SX.aV (SX.val (VX.v rfl) (SX.aNil ⟨_, _, _, _, rfl, (l_far_sim _ _ _), fun _ => (Full.v (Full.v (Full.v Full.nil))), fun y_2 => ⟨rfl, rfl⟩⟩)))))))), fun ys_3 => (SS.seqX (SX.asg (SX.p1 (SX.val (VX.v rfl) ⟨_, rfl, fun x_4 => (SS.seq (SS.forM (αs := l_stop_T) (fun (s_5 : Int) => ((some roads_0, some crew_0, some call_0, some gone_0, some i_0, some ys_3, some s_5, none, none, none, none, none, ()) : Env l_stop_T)) (SX.p1 (SX.val (VX.t1 (VX.v rfl) rfl) ⟨_, rfl, fun x_7 => ⟨_, _, _, rfl, ⟨.inr rfl, .inr rfl, .inr rfl, .inr rfl, .inr rfl, .inr rfl, .inr rfl, .inl rfl, .inl rfl, .inl rfl, .inl rfl, .inl rfl, trivial⟩, fun s_5 j_6 => (SS.of (SX.seq (SX.asg (SX.call (SX.aV (SX.val (VX.v rfl) (SX.aV (SX.p2 (SX.val (VX.v rfl) (SX.val (VX.v rfl) ⟨_, rfl, fun x_8 => (SX.aV (SX.p2 (SX.val (VX.v rfl) (SX.val (VX.v rfl) ⟨_, rfl, fun x_9 => (SX.aNil ⟨_, _, _, _, rfl, (l_far_sim _ _ _), fun _ => (Full.v (Full.v (Full.v Full.nil))), fun y_10 => (SX.seq (SX.asg (SX.p2 (SX.t2 (SX.t2 (SX.p2 (SX.val (VX.v rfl) (SX.val (VX.v rfl) ⟨_, rfl, fun x_11 => (SX.val (VX.v rfl) ⟨_, rfl, (SX.p2 (SX.val (VX.v rfl) (SX.val (VX.v rfl) ⟨_, rfl, fun x_12 => ⟨_, rfl, (SX.val VX.c ⟨_, rfl, fun x_13 => (SX.seq (SX.asg (SX.p2 (SX.t2 (SX.t2 (SX.p2 (SX.val (VX.v rfl) (SX.val (VX.v rfl) ⟨_, rfl, fun x_14 => (SX.val (VX.v rfl) ⟨_, rfl, (SX.p2 (SX.val (VX.v rfl) (SX.val (VX.v rfl) ⟨_, rfl, fun x_15 => ⟨_, rfl, (SX.val VX.c ⟨_, rfl, fun x_16 => (SX.sif (SX.and (SX.val (VX.t2 (VX.v rfl) (VX.v rfl) rfl) ⟨_, _, rfl, (SX.and (SX.t2 (SX.p2 (SX.val (VX.v rfl) (SX.val (VX.v rfl) ⟨_, rfl, fun x_17 => (SX.val (VX.v rfl) ⟨_, ige_eq _ _, ⟨_, _, rfl, (SX.val (VX.or (VX.t2 (VX.v rfl) (VX.v rfl) (ilt_eq _ _)) (VX.and (VX.t2 (VX.v rfl) (VX.v rfl) rfl) (VX.t2 (VX.v rfl) (VX.v rfl) (ilt_eq _ _)))) ⟨rfl, rfl⟩), fun b_18 => ⟨rfl, rfl⟩⟩⟩)⟩))))), fun b_19 => ⟨_, _, rfl, (SX.asg (SX.val (VX.t2 (VX.v rfl) (VX.v rfl) rfl) (WM.mk (.inl rfl) ⟨.inr rfl, .inr rfl, .inr rfl, .inr rfl, .inr rfl, .inr rfl, .inr rfl, .inl rfl, .inl rfl, .inl rfl, .inl rfl, .inl rfl, trivial⟩))), (SX.skip (WM.mk (.inl rfl) ⟨.inr rfl, .inr rfl, .inr rfl, .inr rfl, .inr rfl, .inr rfl, .inr rfl, .inl rfl, .inl rfl, .inl rfl, .inl rfl, .inl rfl, trivial⟩))⟩⟩)))⟩)⟩⟩)))⟩)⟩))))))))⟩)⟩⟩)))⟩)⟩))))))))⟩)⟩))))⟩)))))))))), fun s_5 => (SS.of (SX.sret (SX.val (VX.v rfl) (Wf.mk (ps := l_stop_ps) (ls := l_stop_ls) (val := l_stop_val) (emb := l_stop_emb) (w := s_5) ⟨.inl rfl, ⟨.inl rfl, ⟨.inl rfl, ⟨.inl rfl, ⟨.inl rfl, trivial⟩⟩⟩⟩⟩))))⟩⟩))))⟩))))⟩)))))
/-! ### _law_helpers -/
noncomputable def l_helpers_f (source_0 : List Int) (roads_0 : List (Int × Int)) (many_0 : Int) : Option ((List (Int × Int)) × List Int) := (rng many_0).bind fun x_3 => (forM (fun (s_1 : (List Int × List (Int × Int))) (k_2 : Int) => (l_pick_f s_1.1 (4 : Int)).bind fun w_4 => if ((decide (w_4.1 = (3 : Int))) && (decide ((0 : Int) < k_2))) = true then (l_pick_f w_4.2 k_2).bind fun w_5 => (idx s_1.2 w_5.1).bind fun x_6 => (appO s_1.2 x_6).bind fun crew_7 => some (w_5.2, crew_7) else (l_point_f w_4.2 roads_0).bind fun w_8 => (appO s_1.2 w_8.1).bind fun crew_9 => some (w_8.2, crew_9)) x_3 (source_0, ([] : List (Int × Int)))).bind fun s_1 => some (s_1.2, s_1.1)
abbrev l_helpers_val : ((List (Int × Int)) × List Int) → (List (Int × Int)) := fun w => w.1
abbrev l_helpers_emb : ((List (Int × Int)) × List Int) → Env l_helpers_ps := fun w => (some w.2, none, none, ())
theorem l_helpers_sim (source_0 : List Int) (roads_0 : List (Int × Int)) (many_0 : Int) : Sim (l_helpers_f source_0 roads_0 many_0) (bodyF (ps := l_helpers_ps) (ls := l_helpers_ls) l_helpers_m) ((some source_0, some roads_0, some many_0, ()) : Env l_helpers_ps) l_helpers_val l_helpers_emb := Sim.body (ps := l_helpers_ps) (ls := l_helpers_ls) (show SS (αs := l_helpers_T) l_helpers_m (ext l_helpers_ls l_helpers_ps ((some source_0, some roads_0, some many_0, ()) : Env l_helpers_ps)) (l_helpers_f source_0 roads_0 many_0) (Wf (ps := l_helpers_ps) (ls := l_helpers_ls) l_helpers_val l_helpers_emb) from (SS.seqX (SX.asg (SX.val (VX.lstN 0 VX.c rfl (by decide)) (SS.seq (SS.forM (αs := l_helpers_T) (fun (s_1 : (List Int × List (Int × Int))) => ((some s_1.1, some roads_0, some many_0, some s_1.2, none, none, ()) : Env l_helpers_T)) (SX.p1 (SX.val (VX.v rfl) ⟨_, rfl, fun x_3 => ⟨_, _, _, rfl, ⟨.inr rfl, .inr rfl, .inr rfl, .inr rfl, .inl rfl, .inl rfl, trivial⟩, fun s_1 k_2 => (SS.of (SX.seq (SX.asg (SX.call (SX.aM rfl (SX.aV (SX.val VX.c (SX.aNil ⟨_, rfl, ⟨_, _, _, _, rfl, (l_pick_sim _ _), fun _ => (Full.m rfl (Full.v Full.nil)), fun w_4 => (SX.sif (SX.val (VX.and (VX.t2 (VX.v rfl) VX.c rfl) (VX.t2 (VX.v rfl) VX.c (igt_eq _ _))) ⟨_, _, rfl, (SX.app rfl (SX.p2 (SX.val (VX.v rfl) (SX.call (SX.aM rfl (SX.aV (SX.val (VX.v rfl) (SX.aNil ⟨_, rfl, ⟨_, _, _, _, rfl, (l_pick_sim _ _), fun _ => (Full.m rfl (Full.v Full.nil)), fun w_5 => ⟨_, rfl, fun x_6 => ⟨_, rfl, _, rfl, fun crew_7 => (WM.mk (.inl rfl) ⟨.inr rfl, .inr rfl, .inr rfl, .inr rfl, .inl rfl, .inl rfl, trivial⟩)⟩⟩⟩⟩)))))))), (SX.app rfl (SX.call (SX.aM rfl (SX.aV (SX.val (VX.v rfl) (SX.aNil ⟨_, rfl, ⟨_, _, _, _, rfl, (l_point_sim _ _), fun _ => (Full.m rfl (Full.v Full.nil)), fun w_8 => ⟨_, rfl, _, rfl, fun crew_9 => (WM.mk (.inl rfl) ⟨.inr rfl, .inr rfl, .inr rfl, .inr rfl, .inl rfl, .inl rfl, trivial⟩)⟩⟩⟩))))))⟩))⟩⟩)))))))), fun s_1 => (SS.of (SX.sret (SX.val (VX.v rfl) (Wf.mk (ps := l_helpers_ps) (ls := l_helpers_ls) (val := l_helpers_val) (emb := l_helpers_emb) (w := (s_1.2, s_1.1)) ⟨.inr rfl, ⟨.inl rfl, ⟨.inl rfl, trivial⟩⟩⟩))))⟩⟩))))))))
/-! ### _law_calls -/
noncomputable def l_calls_f (source_0 : List Int) (roads_0 : List (Int × Int)) (crew_0 : List (Int × Int)) (many_0 : Int) : Option ((List (Int × Int)) × List Int) := (rng many_0).bind fun x_3 => (forM (fun (s_1 : (List Int × List (Int × Int))) (k_2 : Int) => (l_pick_f s_1.1 (5 : Int)).bind fun w_4 => if (decide (w_4.1 = (4 : Int))) = true then (l_pick_f w_4.2 (crew_0.length : Int)).bind fun w_5 => (idx crew_0 w_5.1).bind fun x_6 => (appO s_1.2 x_6).bind fun calls_7 => some (w_5.2, calls_7) else if ((decide (w_4.1 = (3 : Int))) && (decide ((0 : Int) < k_2))) = true then (l_pick_f w_4.2 k_2).bind fun w_8 => (idx s_1.2 w_8.1).bind fun x_9 => (appO s_1.2 x_9).bind fun calls_10 => some (w_8.2, calls_10) else (l_point_f w_4.2 roads_0).bind fun w_11 => (appO s_1.2 w_11.1).bind fun calls_12 => some (w_11.2, calls_12)) x_3 (source_0, ([] : List (Int × Int)))).bind fun s_1 => some (s_1.2, s_1.1)
abbrev l_calls_val : ((List (Int × Int)) × List Int) → (List (Int × Int)) := fun w => w.1
abbrev l_calls_emb : ((List (Int × Int)) × List Int) → Env l_calls_ps := fun w => (some w.2, none, none, none, ())
theorem l_calls_sim (source_0 : List Int) (roads_0 : List (Int × Int)) (crew_0 : List (Int × Int)) (many_0 : Int) : Sim (l_calls_f source_0 roads_0 crew_0 many_0) (bodyF (ps := l_calls_ps) (ls := l_calls_ls) l_calls_m) ((some source_0, some roads_0, some crew_0, some many_0, ()) : Env l_calls_ps) l_calls_val l_calls_emb := Sim.body (ps := l_calls_ps) (ls := l_calls_ls) (show SS (αs := l_calls_T) l_calls_m (ext l_calls_ls l_calls_ps ((some source_0, some roads_0, some crew_0, some many_0, ()) : Env l_calls_ps)) (l_calls_f source_0 roads_0 crew_0 many_0) (Wf (ps := l_calls_ps) (ls := l_calls_ls) l_calls_val l_calls_emb) from (SS.seqX (SX.asg (SX.val (VX.lstN 0 VX.c rfl (by decide)) (SS.seq (SS.forM (αs := l_calls_T) (fun (s_1 : (List Int × List (Int × Int))) => ((some s_1.1, some roads_0, some crew_0, some many_0, some s_1.2, none, none, ()) : Env l_calls_T)) (SX.p1 (SX.val (VX.v rfl) ⟨_, rfl, fun x_3 => ⟨_, _, _, rfl, ⟨.inr rfl, .inr rfl, .inr rfl, .inr rfl, .inr rfl, .inl rfl, .inl rfl, trivial⟩, fun s_1 k_2 => (SS.of (SX.seq (SX.asg (SX.call (SX.aM rfl (SX.aV (SX.val VX.c (SX.aNil ⟨_, rfl, ⟨_, _, _, _, rfl, (l_pick_sim _ _), fun _ => (Full.m rfl (Full.v Full.nil)), fun w_4 => (SX.sif (SX.val (VX.t2 (VX.v rfl) VX.c rfl) ⟨_, _, rfl, (SX.app rfl (SX.p2 (SX.val (VX.v rfl) (SX.call (SX.aM rfl (SX.aV (SX.val (VX.t1 (VX.v rfl) rfl) (SX.aNil ⟨_, rfl, ⟨_, _, _, _, rfl, (l_pick_sim _ _), fun _ => (Full.m rfl (Full.v Full.nil)), fun w_5 => ⟨_, rfl, fun x_6 => ⟨_, rfl, _, rfl, fun calls_7 => (WM.mk (.inl rfl) ⟨.inr rfl, .inr rfl, .inr rfl, .inr rfl, .inr rfl, .inl rfl, .inl rfl, trivial⟩)⟩⟩⟩⟩)))))))), (SX.sif (SX.val (VX.and (VX.t2 (VX.v rfl) VX.c rfl) (VX.t2 (VX.v rfl) VX.c (igt_eq _ _))) ⟨_, _, rfl, (SX.app rfl (SX.p2 (SX.val (VX.v rfl) (SX.call (SX.aM rfl (SX.aV (SX.val (VX.v rfl) (SX.aNil ⟨_, rfl, ⟨_, _, _, _, rfl, (l_pick_sim _ _), fun _ => (Full.m rfl (Full.v Full.nil)), fun w_8 => ⟨_, rfl, fun x_9 => ⟨_, rfl, _, rfl, fun calls_10 => (WM.mk (.inl rfl) ⟨.inr rfl, .inr rfl, .inr rfl, .inr rfl, .inr rfl, .inl rfl, .inl rfl, trivial⟩)⟩⟩⟩⟩)))))))), (SX.app rfl (SX.call (SX.aM rfl (SX.aV (SX.val (VX.v rfl) (SX.aNil ⟨_, rfl, ⟨_, _, _, _, rfl, (l_point_sim _ _), fun _ => (Full.m rfl (Full.v Full.nil)), fun w_11 => ⟨_, rfl, _, rfl, fun calls_12 => (WM.mk (.inl rfl) ⟨.inr rfl, .inr rfl, .inr rfl, .inr rfl, .inr rfl, .inl rfl, .inl rfl, trivial⟩)⟩⟩⟩))))))⟩))⟩))⟩⟩)))))))), fun s_1 => (SS.of (SX.sret (SX.val (VX.v rfl) (Wf.mk (ps := l_calls_ps) (ls := l_calls_ls) (val := l_calls_val) (emb := l_calls_emb) (w := (s_1.2, s_1.1)) ⟨.inr rfl, ⟨.inl rfl, ⟨.inl rfl, ⟨.inl rfl, trivial⟩⟩⟩⟩))))⟩⟩))))))))
/-! ### _law_are_points -/
noncomputable def l_are_points_f (roads_0 : List (Int × Int)) (actual_0 : List (Int × Int)) (many_0 : Int) : Option Bool := if (!decide ((actual_0.length : Int) = many_0)) = true then some false else (rng many_0).bind fun x_3 => (forL (fun (s_1 : Unit) (k_2 : Int) => ((idx actual_0 k_2).bind fun x_4 => (l_is_point_f roads_0 x_4).bind fun y_5 => if (!y_5) = true then some (.rt false) else some (.nx ()) : Option (Lp Unit Bool))) x_3 ()).bind (Lp.elim (fun s_1 => some true) (fun r_6 => some r_6))
abbrev l_are_points_val : Bool → Bool := fun w => w
abbrev l_are_points_emb : Bool → Env l_are_points_ps := fun w => (none, none, none, ())
theorem l_are_points_sim (roads_0 : List (Int × Int)) (actual_0 : List (Int × Int)) (many_0 : Int) : Sim (l_are_points_f roads_0 actual_0 many_0) (bodyF (ps := l_are_points_ps) (ls := l_are_points_ls) l_are_points_m) ((some roads_0, some actual_0, some many_0, ()) : Env l_are_points_ps) l_are_points_val l_are_points_emb := Sim.body (ps := l_are_points_ps) (ls := l_are_points_ls) (show SS (αs := l_are_points_T) l_are_points_m (ext l_are_points_ls l_are_points_ps ((some roads_0, some actual_0, some many_0, ()) : Env l_are_points_ps)) (l_are_points_f roads_0 actual_0 many_0) (Wf (ps := l_are_points_ps) (ls := l_are_points_ls) l_are_points_val l_are_points_emb) from (SS.seqX (SX.sif (SX.val (VX.or (VX.t1 (VX.t1 (VX.v rfl) rfl) rfl) (VX.t2 (VX.t1 (VX.v rfl) rfl) (VX.v rfl) rfl)) ⟨_, _, rfl, (SX.sret (SX.val VX.c (Wf.mk (ps := l_are_points_ps) (ls := l_are_points_ls) (val := l_are_points_val) (emb := l_are_points_emb) (w := false) ⟨.inl rfl, ⟨.inl rfl, ⟨.inl rfl, trivial⟩⟩⟩))), (SX.skip (SS.seq (SS.forL (αs := l_are_points_T) (fun (s_1 : Unit) => ((some roads_0, some actual_0, some many_0, none, ()) : Env l_are_points_T)) l_are_points_val (fun w => ext l_are_points_ls l_are_points_ps (l_are_points_emb w)) (SX.p1 (SX.val (VX.v rfl) ⟨_, rfl, fun x_3 => ⟨_, _, _, _, rfl, ⟨.inr rfl, .inr rfl, .inr rfl, .inl rfl, trivial⟩, fun s_1 k_2 => (SS.of (SX.sif (SX.t1 (SX.call (SX.aV (SX.val (VX.v rfl) (SX.aV (SX.p2 (SX.val (VX.v rfl) (SX.val (VX.v rfl) ⟨_, rfl, fun x_4 => (SX.aNil ⟨_, _, _, _, rfl, (l_is_point_sim _ _), fun _ => (Full.v (Full.v Full.nil)), fun y_5 => ⟨_, rfl, ⟨_, _, rfl, (SX.sret (SX.val VX.c (WL.rtI (αs := l_are_points_T) (val := l_are_points_val) (embR := (fun w => ext l_are_points_ls l_are_points_ps (l_are_points_emb w))) (r := false) (Le.ext ⟨.inl rfl, ⟨.inl rfl, ⟨.inl rfl, trivial⟩⟩⟩)))), (SX.skip (WL.nxI (.inl rfl) ⟨.inr rfl, .inr rfl, .inr rfl, .inl rfl, trivial⟩))⟩⟩⟩)⟩)))))))))), fun s_1 => (SS.of (SX.sret (SX.val VX.c (Wf.mk (ps := l_are_points_ps) (ls := l_are_points_ls) (val := l_are_points_val) (emb := l_are_points_emb) (w := true) ⟨.inl rfl, ⟨.inl rfl, ⟨.inl rfl, trivial⟩⟩⟩)))), fun r_6 => (Wf.rt (ps := l_are_points_ps) (ls := l_are_points_ls) r_6)⟩⟩)))))⟩))))
/-! ### Tree.__init__ -/
noncomputable def T_init_f (roads_0 : List (Int × Int)) : Option TreeD := (forM (fun (s_1 : TreeD) (road_2 : (Int × Int)) => (is_pair_f road_2).bind fun y_3 => if (!y_3) = true then none else (some ((!((decide ((0 : Int) ≤ road_2.1)) && (decide (road_2.1 < (s_1.ps.length : Int))))) || (decide (road_2.2 < (1 : Int))))).bind fun x_4 => if x_4 = true then none else (tAdd s_1 road_2.1 road_2.2).bind fun t_5 => some t_5) roads_0 (TreeD.mk [0] [1] [0])).bind fun s_1 => some s_1
abbrev T_init_val : TreeD → Unit := fun w => ()
abbrev T_init_emb : TreeD → Env T_init_ps := fun w => (some (some w), none, ())
theorem T_init_sim (roads_0 : List (Int × Int)) : Sim (T_init_f roads_0) (bodyN (ps := T_init_ps) (ls := T_init_ls) T_init_m) ((some none, some roads_0, ()) : Env T_init_ps) T_init_val T_init_emb := Sim.bodyN (ps := T_init_ps) (ls := T_init_ls) (show SS (αs := T_init_T) T_init_m (ext T_init_ls T_init_ps ((some none, some roads_0, ()) : Env T_init_ps)) (T_init_f roads_0) (WN (ps := T_init_ps) (ls := T_init_ls) T_init_emb) from (SS.seqX (SX.sifN (SX.val (VX.t1 (VX.t1 (VX.v rfl) rfl) rfl) ⟨rfl, (SX.skip (SS.seqX (SX.t0 rfl (SS.forM (αs := T_init_T) (fun (s_1 : TreeD) => ((some (some s_1), some roads_0, none, none, none, ()) : Env T_init_T)) (SX.val (VX.v rfl) ⟨_, _, _, rfl, ⟨.inr rfl, .inr rfl, .inl rfl, .inl rfl, .inl rfl, trivial⟩, fun s_1 road_2 => (SS.of (SX.seq (SX.sif (SX.t1 (SX.call (SX.aV (SX.val (VX.v rfl) (SX.aNil ⟨_, _, _, _, rfl, (is_pair_sim _), fun _ => (Full.v Full.nil), fun y_3 => ⟨_, rfl, ⟨_, _, rfl, SX.fail, (SX.skip (SX.seq (SX.asgG (SX.val (VX.v rfl) (SX.seq (SX.sif (SX.nm (VX.or (VX.t1 (VX.chn VX.c (VX.v rfl) (VX.lenP rfl) (ile_eq _ _) (ilt_eq _ _)) rfl) (VX.t2 (VX.v rfl) VX.c (ilt_eq _ _))) ⟨_, rfl, fun x_4 => ⟨_, _, rfl, SX.fail, (SX.skip (SX.ta rfl rfl rfl ⟨_, rfl, fun t_5 => (WM.mk (.inl rfl) ⟨.inr rfl, .inr rfl, .inl rfl, .inl rfl, .inl rfl, trivial⟩)⟩))⟩⟩)))))))⟩⟩⟩)))))))), fun s_1 => (WN.mk (ps := T_init_ps) (ls := T_init_ls) (emb := T_init_emb) (w := s_1) (.inr rfl) ⟨.inr rfl, ⟨.inl rfl, trivial⟩⟩)⟩)))))⟩))))
/-! ### Tree.__contains__ -/
noncomputable def T_contains_f (self_0 : TreeD) (point_0 : (Int × Int)) : Option Bool := (is_pair_f point_0).bind fun y_1 => if (!y_1) = true then some false else (if ((decide ((0 : Int) ≤ point_0.1)) && (decide (point_0.1 < (self_0.ps.length : Int)))) = true then (if (decide ((0 : Int) ≤ point_0.2)) = true then (idx self_0.ls point_0.1).bind fun x_2 => some (decide (point_0.2 < x_2)) else some false).bind fun b_3 => some b_3 else some false).bind fun b_4 => some b_4
abbrev T_contains_val : Bool → Bool := fun w => w
abbrev T_contains_emb : Bool → Env T_contains_ps := fun w => (none, none, ())
theorem T_contains_sim (self_0 : TreeD) (point_0 : (Int × Int)) : Sim (T_contains_f self_0 point_0) (bodyF (ps := T_contains_ps) (ls := T_contains_ls) T_contains_m) ((some self_0, some point_0, ()) : Env T_contains_ps) T_contains_val T_contains_emb := Sim.body (ps := T_contains_ps) (ls := T_contains_ls) (show SS (αs := T_contains_T) T_contains_m (ext T_contains_ls T_contains_ps ((some self_0, some point_0, ()) : Env T_contains_ps)) (T_contains_f self_0 point_0) (Wf (ps := T_contains_ps) (ls := T_contains_ls) T_contains_val T_contains_emb) from (SS.of (SX.seq (SX.sif (SX.t1 (SX.call (SX.aV (SX.val (VX.v rfl) (SX.aNil ⟨_, _, _, _, rfl, (is_pair_sim _), fun _ => (Full.v Full.nil), fun y_1 => ⟨_, rfl, ⟨_, _, rfl, (SX.sret (SX.val VX.c (Wf.mk (ps := T_contains_ps) (ls := T_contains_ls) (val := T_contains_val) (emb := T_contains_emb) (w := false) ⟨.inl rfl, ⟨.inl rfl, trivial⟩⟩))), (SX.skip (SX.seq (SX.asgG (SX.val (VX.v rfl) (SX.sret (SX.and (SX.val (VX.chn VX.c (VX.v rfl) (VX.t1 (VX.t1 (VX.v rfl) rfl) rfl) (ile_eq _ _) (ilt_eq _ _)) ⟨_, _, rfl, (SX.chn (SX.val VX.c (SX.val (VX.v rfl) ⟨_, ile_eq _ _, _, _, rfl, (SX.p2 (SX.val (VX.t1 (VX.v rfl) rfl) (SX.val (VX.v rfl) ⟨_, rfl, fun x_2 => ⟨rfl, _, ilt_eq _ _, rfl⟩⟩))), fun b_3 => ⟨rfl, rfl⟩⟩))), fun b_4 => (Wf.mk (ps := T_contains_ps) (ls := T_contains_ls) (val := T_contains_val) (emb := T_contains_emb) (w := b_4) ⟨.inl rfl, ⟨.inl rfl, trivial⟩⟩)⟩)))))))⟩⟩⟩)))))))))
/-! ### _law_is_pair -/
noncomputable def l_is_pair_f (roads_0 : List (Int × Int)) (actual_0 : (List (Int × Int) × Int)) (many_0 : Int) : Option Bool := if (!decide ((2 : Int) = (2 : Int))) = true then some false else (l_are_points_f roads_0 actual_0.1 many_0).bind fun y_1 => (if y_1 = true then (l_is_integer_f actual_0.2).bind fun y_2 => some y_2 else some false).bind fun b_3 => some b_3
abbrev l_is_pair_val : Bool → Bool := fun w => w
abbrev l_is_pair_emb : Bool → Env l_is_pair_ps := fun w => (none, none, none, ())
theorem l_is_pair_sim (roads_0 : List (Int × Int)) (actual_0 : (List (Int × Int) × Int)) (many_0 : Int) : Sim (l_is_pair_f roads_0 actual_0 many_0) (bodyF (ps := l_is_pair_ps) (ls := l_is_pair_ls) l_is_pair_m) ((some roads_0, some actual_0, some many_0, ()) : Env l_is_pair_ps) l_is_pair_val l_is_pair_emb := Sim.body (ps := l_is_pair_ps) (ls := l_is_pair_ls) (show SS (αs := l_is_pair_T) l_is_pair_m (ext l_is_pair_ls l_is_pair_ps ((some roads_0, some actual_0, some many_0, ()) : Env l_is_pair_ps)) (l_is_pair_f roads_0 actual_0 many_0) (Wf (ps := l_is_pair_ps) (ls := l_is_pair_ls) l_is_pair_val l_is_pair_emb) from (SS.of (SX.seq (SX.sif (SX.val (VX.or (VX.t1 (VX.t1 (VX.v rfl) rfl) rfl) (VX.t2 (VX.t1 (VX.v rfl) rfl) VX.c rfl)) ⟨_, _, rfl, (SX.sret (SX.val VX.c (Wf.mk (ps := l_is_pair_ps) (ls := l_is_pair_ls) (val := l_is_pair_val) (emb := l_is_pair_emb) (w := false) ⟨.inl rfl, ⟨.inl rfl, ⟨.inl rfl, trivial⟩⟩⟩))), (SX.skip (SX.sret (SX.and (SX.call (SX.aV (SX.val (VX.v rfl) (SX.aV (SX.val (VX.t1 (VX.v rfl) rfl) (SX.aV (SX.val (VX.v rfl) (SX.aNil ⟨_, _, _, _, rfl, (l_are_points_sim _ _ _), fun _ => (Full.v (Full.v (Full.v Full.nil))), fun y_1 => ⟨_, _, rfl, (SX.call (SX.aV (SX.val (VX.t1 (VX.v rfl) rfl) (SX.aNil ⟨_, _, _, _, rfl, (l_is_integer_sim _), fun _ => (Full.v Full.nil), fun y_2 => ⟨rfl, rfl⟩⟩)))), fun b_3 => (Wf.mk (ps := l_is_pair_ps) (ls := l_is_pair_ls) (val := l_is_pair_val) (emb := l_is_pair_emb) (w := b_3) ⟨.inl rfl, ⟨.inl rfl, ⟨.inl rfl, trivial⟩⟩⟩)⟩⟩)))))))))))⟩)))))
/-! ### Tree.height -/
noncomputable def T_height_f (self_0 : TreeD) (point_0 : (Int × Int)) : Option Int := (T_contains_f self_0 point_0).bind fun b_1 => if (!b_1) = true then none else (idx self_0.hs point_0.1).bind fun x_2 => some (x_2 - point_0.2)
abbrev T_height_val : Int → Int := fun w => w
abbrev T_height_emb : Int → Env T_height_ps := fun w => (none, none, ())
theorem T_height_sim (self_0 : TreeD) (point_0 : (Int × Int)) : Sim (T_height_f self_0 point_0) (bodyF (ps := T_height_ps) (ls := T_height_ls) T_height_m) ((some self_0, some point_0, ()) : Env T_height_ps) T_height_val T_height_emb := Sim.body (ps := T_height_ps) (ls := T_height_ls) (show SS (αs := T_height_T) T_height_m (ext T_height_ls T_height_ps ((some self_0, some point_0, ()) : Env T_height_ps)) (T_height_f self_0 point_0) (Wf (ps := T_height_ps) (ls := T_height_ls) T_height_val T_height_emb) from (SS.of (SX.seq (SX.sif (SX.isin (SX.val (VX.v rfl) (SX.val (VX.v rfl) ⟨_, _, _, _, rfl, (T_contains_sim _ _), fun b_1 => ⟨_, _, rfl, SX.fail, (SX.skip (SX.sret (SX.t2 (SX.p2 (SX.val (VX.t1 (VX.v rfl) rfl) (SX.val (VX.t1 (VX.v rfl) rfl) ⟨_, rfl, fun x_2 => (SX.val (VX.t1 (VX.v rfl) rfl) ⟨_, rfl, (Wf.mk (ps := T_height_ps) (ls := T_height_ls) (val := T_height_val) (emb := T_height_emb) (w := (x_2 - point_0.2)) ⟨.inl rfl, ⟨.inl rfl, trivial⟩⟩)⟩)⟩))))))⟩⟩)))))))
/-! ### _law_led -/
noncomputable def l_led_f (roads_0 : List (Int × Int)) (kind_0 : Int) (crew_0 : List (Int × Int)) (call_0 : (Int × Int)) (actual_0 : (List (Int × Int) × Int)) : Option Bool := (l_is_pair_f roads_0 actual_0 (crew_0.length : Int)).bind fun y_1 => if (!y_1) = true then some false else (cap crew_0 (lcO (fun (point_2 : (Int × Int)) => some true) (fun point_2 => (l_far_f roads_0 point_2 call_0).bind fun y_3 => some y_3) crew_0)).bind fun ys_4 => (rng (crew_0.length : Int)).bind fun x_5 => (cap x_5 (lcO (fun (i_6 : Int) => some true) (fun i_6 => (idx crew_0 i_6).bind fun x_7 => (idx actual_0.1 i_6).bind fun x_8 => (l_far_f roads_0 x_7 x_8).bind fun y_9 => some y_9) x_5)).bind fun ys_10 => if (!decide (actual_0.2 = ys_10.sum)) = true then some false else (rng (crew_0.length : Int)).bind fun x_13 => (forL (fun (s_11 : Unit) (i_12 : Int) => ((if (decide (kind_0 = (0 : Int))) = true then (l_stop_f roads_0 crew_0 call_0 ys_10 i_12).bind fun y_15 => some y_15 else (minL ys_4).bind fun x_16 => (indexOf ys_4 x_16).bind fun x_17 => if (decide (i_12 = x_17)) = true then (idx ys_4 i_12).bind fun x_18 => some x_18 else some (0 : Int) : Option Int).bind fun j_14 => (idx ys_10 i_12).bind fun x_19 => (if (!decide (x_19 = j_14)) = true then some true else (idx actual_0.1 i_12).bind fun x_20 => (l_far_f roads_0 x_20 call_0).bind fun y_21 => (idx ys_4 i_12).bind fun x_22 => some (!decide ((j_14 + y_21) = x_22))).bind fun b_23 => if b_23 = true then some (.rt false) else some (.nx ()) : Option (Lp Unit Bool))) x_13 ()).bind (Lp.elim (fun s_11 => some true) (fun r_24 => some r_24))
abbrev l_led_val : Bool → Bool := fun w => w
abbrev l_led_emb : Bool → Env l_led_ps := fun w => (none, none, none, none, none, ())
theorem l_led_sim (roads_0 : List (Int × Int)) (kind_0 : Int) (crew_0 : List (Int × Int)) (call_0 : (Int × Int)) (actual_0 : (List (Int × Int) × Int)) : Sim (l_led_f roads_0 kind_0 crew_0 call_0 actual_0) (bodyF (ps := l_led_ps) (ls := l_led_ls) l_led_m) ((some roads_0, some kind_0, some crew_0, some call_0, some actual_0, ()) : Env l_led_ps) l_led_val l_led_emb := Sim.body (ps := l_led_ps) (ls := l_led_ls) (show SS (αs := l_led_T) l_led_m (ext l_led_ls l_led_ps ((some roads_0, some kind_0, some crew_0, some call_0, some actual_0, ()) : Env l_led_ps)) (l_led_f roads_0 kind_0 crew_0 call_0 actual_0) (Wf (ps := l_led_ps) (ls := l_led_ls) l_led_val l_led_emb) from (SS.seqX (SX.sif (SX.t1 (SX.call (SX.aV (SX.val (VX.v rfl) (SX.aV (SX.val (VX.v rfl) (SX.aV (SX.val (VX.t1 (VX.v rfl) rfl) (SX.aNil ⟨_, _, _, _, rfl, (l_is_pair_sim _ _ _), fun _ => (Full.v (Full.v (Full.v Full.nil))), fun y_1 => ⟨_, rfl, ⟨_, _, rfl, (SX.sret (SX.val VX.c (Wf.mk (ps := l_led_ps) (ls := l_led_ls) (val := l_led_val) (emb := l_led_emb) (w := false) ⟨.inl rfl, ⟨.inl rfl, ⟨.inl rfl, ⟨.inl rfl, ⟨.inl rfl, trivial⟩⟩⟩⟩⟩))), (SX.skip (SS.seqX (SX.asg (SX.lcO (fun _ _ => own1) (SX.val (VX.v rfl) ⟨_, _, _, rfl, fun point_2 => (SX.val VX.c ⟨rfl, rfl⟩), fun point_2 => (SX.call (SX.aV (SX.val (VX.v rfl) (SX.aV (SX.val (VX.v rfl) (SX.aV (SX.val (VX.v rfl) (SX.aNil ⟨_, _, _, _, rfl, (l_far_sim _ _ _), fun _ => (Full.v (Full.v (Full.v Full.nil))), fun y_3 => ⟨rfl, rfl⟩⟩)))))))), fun ys_4 => (SS.seqX (SX.asg (SX.lcO (fun _ _ => own1) (SX.p1 (SX.val (VX.t1 (VX.v rfl) rfl) ⟨_, rfl, fun x_5 => ⟨_, _, _, rfl, fun i_6 => (SX.val VX.c ⟨rfl, rfl⟩), fun i_6 => (SX.call (SX.aV (SX.val (VX.v rfl) (SX.aV (SX.p2 (SX.val (VX.v rfl) (SX.val (VX.v rfl) ⟨_, rfl, fun x_7 => (SX.aV (SX.p2 (SX.val (VX.t1 (VX.v rfl) rfl) (SX.val (VX.v rfl) ⟨_, rfl, fun x_8 => (SX.aNil ⟨_, _, _, _, rfl, (l_far_sim _ _ _), fun _ => (Full.v (Full.v (Full.v Full.nil))), fun y_9 => ⟨rfl, rfl⟩⟩)⟩))))⟩))))))), fun ys_10 => (SS.seqX (SX.sif (SX.val (VX.t2 (VX.t1 (VX.v rfl) rfl) (VX.t1 (VX.v rfl) rfl) rfl) ⟨_, _, rfl, (SX.sret (SX.val VX.c (Wf.mk (ps := l_led_ps) (ls := l_led_ls) (val := l_led_val) (emb := l_led_emb) (w := false) ⟨.inl rfl, ⟨.inl rfl, ⟨.inl rfl, ⟨.inl rfl, ⟨.inl rfl, trivial⟩⟩⟩⟩⟩))), (SX.skip (SS.seq (SS.forL (αs := l_led_T) (fun (s_11 : Unit) => ((some roads_0, some kind_0, some crew_0, some call_0, some actual_0, some ys_4, some ys_10, none, none, none, ()) : Env l_led_T)) l_led_val (fun w => ext l_led_ls l_led_ps (l_led_emb w)) (SX.p1 (SX.val (VX.t1 (VX.v rfl) rfl) ⟨_, rfl, fun x_13 => ⟨_, _, _, _, rfl, ⟨.inr rfl, .inr rfl, .inr rfl, .inr rfl, .inr rfl, .inr rfl, .inr rfl, .inl rfl, .inl rfl, .inl rfl, trivial⟩, fun s_11 i_12 => (SS.seqX (SX.asg (SX.val VX.c (SS.join (αs := l_led_T) (fun (j_14 : Int) => ((some roads_0, some kind_0, some crew_0, some call_0, some actual_0, some ys_4, some ys_10, some i_12, some j_14, none, ()) : Env l_led_T)) (SS.of (SX.sif (SX.val (VX.t2 (VX.v rfl) VX.c rfl) ⟨_, _, rfl, (SX.asg (SX.call (SX.aV (SX.val (VX.v rfl) (SX.aV (SX.val (VX.v rfl) (SX.aV (SX.val (VX.v rfl) (SX.aV (SX.val (VX.v rfl) (SX.aV (SX.val (VX.v rfl) (SX.aNil ⟨_, _, _, _, rfl, (l_stop_sim _ _ _ _ _), fun _ => (Full.v (Full.v (Full.v (Full.v (Full.v Full.nil))))), fun y_15 => ⟨_, rfl, rfl, ⟨.inr rfl, .inr rfl, .inr rfl, .inr rfl, .inr rfl, .inr rfl, .inr rfl, .inr rfl, .inr rfl, .inl rfl, trivial⟩⟩⟩))))))))))))), (SX.sif (SX.t2 (SX.val (VX.v rfl) (SX.p2 (SX.val (VX.v rfl) (SX.p1 (SX.val (VX.v rfl) ⟨_, rfl, fun x_16 => ⟨_, rfl, fun x_17 => ⟨_, rfl, ⟨_, _, rfl, (SX.asg (SX.p2 (SX.val (VX.v rfl) (SX.val (VX.v rfl) ⟨_, rfl, fun x_18 => ⟨_, rfl, rfl, ⟨.inr rfl, .inr rfl, .inr rfl, .inr rfl, .inr rfl, .inr rfl, .inr rfl, .inr rfl, .inr rfl, .inl rfl, trivial⟩⟩⟩)))), (SX.skip ⟨_, rfl, rfl, ⟨.inr rfl, .inr rfl, .inr rfl, .inr rfl, .inr rfl, .inr rfl, .inr rfl, .inr rfl, .inr rfl, .inl rfl, trivial⟩⟩)⟩⟩⟩⟩)))))))⟩))) fun j_14 => (SS.of (SX.sif (SX.or (SX.t2 (SX.p2 (SX.val (VX.v rfl) (SX.val (VX.v rfl) ⟨_, rfl, fun x_19 => (SX.val (VX.v rfl) ⟨_, rfl, ⟨_, _, rfl, (SX.t2 (SX.t2 (SX.val (VX.v rfl) (SX.call (SX.aV (SX.val (VX.v rfl) (SX.aV (SX.p2 (SX.val (VX.t1 (VX.v rfl) rfl) (SX.val (VX.v rfl) ⟨_, rfl, fun x_20 => (SX.aV (SX.val (VX.v rfl) (SX.aNil ⟨_, _, _, _, rfl, (l_far_sim _ _ _), fun _ => (Full.v (Full.v (Full.v Full.nil))), fun y_21 => ⟨_, rfl, (SX.p2 (SX.val (VX.v rfl) (SX.val (VX.v rfl) ⟨_, rfl, fun x_22 => ⟨_, rfl, ⟨rfl, rfl⟩⟩⟩)))⟩⟩)))⟩)))))))))), fun b_23 => ⟨_, _, rfl, (SX.sret (SX.val VX.c (WL.rtI (αs := l_led_T) (val := l_led_val) (embR := (fun w => ext l_led_ls l_led_ps (l_led_emb w))) (r := false) (Le.ext ⟨.inl rfl, ⟨.inl rfl, ⟨.inl rfl, ⟨.inl rfl, ⟨.inl rfl, trivial⟩⟩⟩⟩⟩)))), (SX.skip (WL.nxI (.inl rfl) ⟨.inr rfl, .inr rfl, .inr rfl, .inr rfl, .inr rfl, .inr rfl, .inr rfl, .inl rfl, .inl rfl, .inl rfl, trivial⟩))⟩⟩⟩)⟩))))))))))), fun s_11 => (SS.of (SX.sret (SX.val VX.c (Wf.mk (ps := l_led_ps) (ls := l_led_ls) (val := l_led_val) (emb := l_led_emb) (w := true) ⟨.inl rfl, ⟨.inl rfl, ⟨.inl rfl, ⟨.inl rfl, ⟨.inl rfl, trivial⟩⟩⟩⟩⟩)))), fun r_24 => (Wf.rt (ps := l_led_ps) (ls := l_led_ls) r_24)⟩⟩)))))⟩)))⟩⟩)))))⟩)))))⟩⟩⟩))))))))))))
/-! ### Tree.junction -/
noncomputable def T_junction_f (self_0 : TreeD) (one_0 : (Int × Int)) (other_0 : (Int × Int)) : Option Int := (T_height_f self_0 one_0).bind fun y_1 => (T_height_f self_0 other_0).bind fun y_2 => (whL (fun (s_3 : (Int × Int)) => some (!decide (s_3.1 = s_3.2))) (fun s_3 => (if (decide (s_3.2 < s_3.1)) = true then (idx self_0.ps s_3.1).bind fun x_5 => some (.nx (x_5, s_3.2)) else (idx self_0.ps s_3.2).bind fun x_6 => some (.nx (s_3.1, x_6)) : Option (Lp (Int × Int) Int))) (one_0.1, other_0.1)).bind (Lp.elim (fun s_3 => (idx self_0.hs s_3.1).bind fun x_4 => some (if x_4 < (if y_2 < y_1 then y_2 else y_1) then x_4 else (if y_2 < y_1 then y_2 else y_1))) (fun r_7 => some r_7))
abbrev T_junction_val : Int → Int := fun w => w
abbrev T_junction_emb : Int → Env T_junction_ps := fun w => (none, none, none, ())
theorem T_junction_sim (self_0 : TreeD) (one_0 : (Int × Int)) (other_0 : (Int × Int)) : Sim (T_junction_f self_0 one_0 other_0) (bodyF (ps := T_junction_ps) (ls := T_junction_ls) T_junction_m) ((some self_0, some one_0, some other_0, ()) : Env T_junction_ps) T_junction_val T_junction_emb := Sim.body (ps := T_junction_ps) (ls := T_junction_ls) (show SS (αs := T_junction_T) T_junction_m (ext T_junction_ls T_junction_ps ((some self_0, some one_0, some other_0, ()) : Env T_junction_ps)) (T_junction_f self_0 one_0 other_0) (Wf (ps := T_junction_ps) (ls := T_junction_ls) T_junction_val T_junction_emb) from (SS.seqX (SX.asg (SX.t2 (SX.call (SX.aV (SX.val (VX.v rfl) (SX.aV (SX.val (VX.v rfl) (SX.aNil ⟨_, _, _, _, rfl, (T_height_sim _ _), fun _ => (Full.v (Full.v Full.nil)), fun y_1 => (SX.call (SX.aV (SX.val (VX.v rfl) (SX.aV (SX.val (VX.v rfl) (SX.aNil ⟨_, _, _, _, rfl, (T_height_sim _ _), fun _ => (Full.v (Full.v Full.nil)), fun y_2 => ⟨_, rfl, (SS.seqX (SX.par (SX.val (VX.t1 (VX.v rfl) rfl) (SX.val (VX.t1 (VX.v rfl) rfl) (SS.seq (SS.whL (αs := T_junction_T) (fun (s_3 : (Int × Int)) => ((some self_0, some one_0, some other_0, some (if y_2 < y_1 then y_2 else y_1), some s_3.1, some s_3.2, ()) : Env T_junction_T)) T_junction_val (fun w => ext T_junction_ls T_junction_ps (T_junction_emb w)) ⟨.inr rfl, .inr rfl, .inr rfl, .inr rfl, .inr rfl, .inr rfl, trivial⟩ (fun s_3 => (SX.val (VX.t2 (VX.v rfl) (VX.v rfl) rfl) ⟨rfl, rfl⟩)) (fun s_3 => (SS.of (SX.sif (SX.val (VX.t2 (VX.v rfl) (VX.v rfl) (igt_eq _ _)) ⟨_, _, rfl, (SX.asg (SX.p2 (SX.val (VX.t1 (VX.v rfl) rfl) (SX.val (VX.v rfl) ⟨_, rfl, fun x_5 => (WL.nxI (.inl rfl) ⟨.inr rfl, .inr rfl, .inr rfl, .inr rfl, .inr rfl, .inr rfl, trivial⟩)⟩)))), (SX.asg (SX.p2 (SX.val (VX.t1 (VX.v rfl) rfl) (SX.val (VX.v rfl) ⟨_, rfl, fun x_6 => (WL.nxI (.inl rfl) ⟨.inr rfl, .inr rfl, .inr rfl, .inr rfl, .inr rfl, .inr rfl, trivial⟩)⟩))))⟩)))) (fun s_3 => (SS.of (SX.sret (SX.t2 (SX.val (VX.v rfl) (SX.p2 (SX.val (VX.t1 (VX.v rfl) rfl) (SX.val (VX.v rfl) ⟨_, rfl, fun x_4 => ⟨_, rfl, (Wf.mk (ps := T_junction_ps) (ls := T_junction_ls) (val := T_junction_val) (emb := T_junction_emb) (w := (if x_4 < (if y_2 < y_1 then y_2 else y_1) then x_4 else (if y_2 < y_1 then y_2 else y_1))) ⟨.inl rfl, ⟨.inl rfl, ⟨.inl rfl, trivial⟩⟩⟩)⟩⟩)))))))) (fun r_7 => (Wf.rt (ps := T_junction_ps) (ls := T_junction_ls) r_7))))))))⟩⟩))))))⟩))))))))))
/-! ### Tree.distance -/
noncomputable def T_distance_f (self_0 : TreeD) (one_0 : (Int × Int)) (other_0 : (Int × Int)) : Option Int := (T_height_f self_0 one_0).bind fun y_1 => (T_height_f self_0 other_0).bind fun y_2 => (T_junction_f self_0 one_0 other_0).bind fun y_3 => (imul (2 : Int) y_3).bind fun x_4 => some ((y_1 + y_2) - x_4)
abbrev T_distance_val : Int → Int := fun w => w
abbrev T_distance_emb : Int → Env T_distance_ps := fun w => (none, none, none, ())
theorem T_distance_sim (self_0 : TreeD) (one_0 : (Int × Int)) (other_0 : (Int × Int)) : Sim (T_distance_f self_0 one_0 other_0) (bodyF (ps := T_distance_ps) (ls := T_distance_ls) T_distance_m) ((some self_0, some one_0, some other_0, ()) : Env T_distance_ps) T_distance_val T_distance_emb := Sim.body (ps := T_distance_ps) (ls := T_distance_ls) (show SS (αs := T_distance_T) T_distance_m (ext T_distance_ls T_distance_ps ((some self_0, some one_0, some other_0, ()) : Env T_distance_ps)) (T_distance_f self_0 one_0 other_0) (Wf (ps := T_distance_ps) (ls := T_distance_ls) T_distance_val T_distance_emb) from (SS.of (SX.sret (SX.t2 (SX.t2 (SX.call (SX.aV (SX.val (VX.v rfl) (SX.aV (SX.val (VX.v rfl) (SX.aNil ⟨_, _, _, _, rfl, (T_height_sim _ _), fun _ => (Full.v (Full.v Full.nil)), fun y_1 => (SX.call (SX.aV (SX.val (VX.v rfl) (SX.aV (SX.val (VX.v rfl) (SX.aNil ⟨_, _, _, _, rfl, (T_height_sim _ _), fun _ => (Full.v (Full.v Full.nil)), fun y_2 => ⟨_, rfl, (SX.p2 (SX.val VX.c (SX.call (SX.aV (SX.val (VX.v rfl) (SX.aV (SX.val (VX.v rfl) (SX.aV (SX.val (VX.v rfl) (SX.aNil ⟨_, _, _, _, rfl, (T_junction_sim _ _ _), fun _ => (Full.v (Full.v (Full.v Full.nil))), fun y_3 => ⟨_, rfl, fun x_4 => ⟨_, rfl, (Wf.mk (ps := T_distance_ps) (ls := T_distance_ls) (val := T_distance_val) (emb := T_distance_emb) (w := ((y_1 + y_2) - x_4)) ⟨.inl rfl, ⟨.inl rfl, ⟨.inl rfl, trivial⟩⟩⟩)⟩⟩⟩))))))))))⟩⟩))))))⟩)))))))))))
/-! ### next_change -/
noncomputable def next_change_f (tree_0 : TreeD) (points_0 : List (Int × Int)) (call_0 : (Int × Int)) : Option Int := (cap points_0 (lcO (fun (point_1 : (Int × Int)) => some true) (fun point_1 => (T_distance_f tree_0 point_1 call_0).bind fun y_2 => some y_2) points_0)).bind fun ys_3 => (minL ys_3).bind fun x_4 => (forM (fun (s_5 : Int) (number_6 : (Int × (Int × Int))) => (rng number_6.1).bind fun x_9 => (forM (fun (s_7 : Int) (other_8 : Int) => (idx ys_3 number_6.1).bind fun x_10 => (idx ys_3 other_8).bind fun x_11 => (idx points_0 other_8).bind fun x_12 => (T_distance_f tree_0 number_6.2 x_12).bind fun y_13 => (idiv ((x_10 + x_11) - y_13) (2 : Int)).bind fun x_14 => (idx ys_3 number_6.1).bind fun x_15 => (idx ys_3 other_8).bind fun x_16 => some (if (x_16 - x_14) < (if (x_15 - x_14) < s_7 then (x_15 - x_14) else s_7) then (x_16 - x_14) else (if (x_15 - x_14) < s_7 then (x_15 - x_14) else s_7))) x_9 s_5).bind fun s_7 => some s_7) (enumF 0 points_0) x_4).bind fun s_5 => some s_5
abbrev next_change_val : Int → Int := fun w => w
abbrev next_change_emb : Int → Env next_change_ps := fun w => (none, none, none, ())
theorem next_change_sim (tree_0 : TreeD) (points_0 : List (Int × Int)) (call_0 : (Int × Int)) : Sim (next_change_f tree_0 points_0 call_0) (bodyF (ps := next_change_ps) (ls := next_change_ls) next_change_m) ((some tree_0, some points_0, some call_0, ()) : Env next_change_ps) next_change_val next_change_emb := Sim.body (ps := next_change_ps) (ls := next_change_ls) (show SS (αs := next_change_T) next_change_m (ext next_change_ls next_change_ps ((some tree_0, some points_0, some call_0, ()) : Env next_change_ps)) (next_change_f tree_0 points_0 call_0) (Wf (ps := next_change_ps) (ls := next_change_ls) next_change_val next_change_emb) from (SS.seqX (SX.asg (SX.lcO (fun _ _ => own1) (SX.val (VX.v rfl) ⟨_, _, _, rfl, fun point_1 => (SX.val VX.c ⟨rfl, rfl⟩), fun point_1 => (SX.call (SX.aV (SX.val (VX.v rfl) (SX.aV (SX.val (VX.v rfl) (SX.aV (SX.val (VX.v rfl) (SX.aNil ⟨_, _, _, _, rfl, (T_distance_sim _ _ _), fun _ => (Full.v (Full.v (Full.v Full.nil))), fun y_2 => ⟨rfl, rfl⟩⟩)))))))), fun ys_3 => (SS.seqX (SX.asg (SX.p1 (SX.val (VX.v rfl) ⟨_, rfl, fun x_4 => (SS.seq (SS.forM (αs := next_change_T) (fun (s_5 : Int) => ((some tree_0, some points_0, some call_0, some ys_3, some s_5, none, none, none, none, ()) : Env next_change_T)) (SX.val (VX.t1 (VX.v rfl) rfl) ⟨_, _, _, rfl, ⟨.inr rfl, .inr rfl, .inr rfl, .inr rfl, .inr rfl, .inl rfl, .inl rfl, .inl rfl, .inl rfl, trivial⟩, fun s_5 number_6 => (SS.forM (αs := next_change_T) (fun (s_7 : Int) => ((some tree_0, some points_0, some call_0, some ys_3, some s_7, some number_6.1, some number_6.2, none, none, ()) : Env next_change_T)) (SX.p1 (SX.val (VX.v rfl) ⟨_, rfl, fun x_9 => ⟨_, _, _, rfl, ⟨.inr rfl, .inr rfl, .inr rfl, .inr rfl, .inr rfl, .inr rfl, .inr rfl, .inl rfl, .inl rfl, trivial⟩, fun s_7 other_8 => (SS.of (SX.seq (SX.asg (SX.p2 (SX.t2 (SX.t2 (SX.p2 (SX.val (VX.v rfl) (SX.val (VX.v rfl) ⟨_, rfl, fun x_10 => (SX.p2 (SX.val (VX.v rfl) (SX.val (VX.v rfl) ⟨_, rfl, fun x_11 => ⟨_, rfl, (SX.call (SX.aV (SX.val (VX.v rfl) (SX.aV (SX.val (VX.v rfl) (SX.aV (SX.p2 (SX.val (VX.v rfl) (SX.val (VX.v rfl) ⟨_, rfl, fun x_12 => (SX.aNil ⟨_, _, _, _, rfl, (T_distance_sim _ _ _), fun _ => (Full.v (Full.v (Full.v Full.nil))), fun y_13 => ⟨_, rfl, (SX.val VX.c ⟨_, rfl, fun x_14 => (SX.asg (SX.t3 (SX.val (VX.v rfl) (SX.t2 (SX.p2 (SX.val (VX.v rfl) (SX.val (VX.v rfl) ⟨_, rfl, fun x_15 => (SX.val (VX.v rfl) ⟨_, rfl, (SX.t2 (SX.p2 (SX.val (VX.v rfl) (SX.val (VX.v rfl) ⟨_, rfl, fun x_16 => (SX.val (VX.v rfl) ⟨_, rfl, ⟨_, rfl, (WM.mk (.inl rfl) ⟨.inr rfl, .inr rfl, .inr rfl, .inr rfl, .inr rfl, .inr rfl, .inr rfl, .inl rfl, .inl rfl, trivial⟩)⟩⟩)⟩))))⟩)⟩)))))))⟩)⟩⟩)⟩)))))))))⟩⟩)))⟩))))))))), fun s_7 => (WM.mk (.inl rfl) ⟨.inr rfl, .inr rfl, .inr rfl, .inr rfl, .inr rfl, .inl rfl, .inl rfl, .inl rfl, .inl rfl, trivial⟩)⟩⟩))), fun s_5 => (SS.of (SX.sret (SX.val (VX.v rfl) (Wf.mk (ps := next_change_ps) (ls := next_change_ls) (val := next_change_val) (emb := next_change_emb) (w := s_5) ⟨.inl rfl, ⟨.inl rfl, ⟨.inl rfl, trivial⟩⟩⟩))))⟩)))⟩))))⟩)))))
/-! ### lead_nearest -/
noncomputable def lead_nearest_f (tree_0 : TreeD) (crew_0 : List (Int × Int)) (call_0 : (Int × Int)) : Option (List (Int × Int) × Int) := (cap crew_0 (lcO (fun (point_1 : (Int × Int)) => some true) (fun point_1 => (T_distance_f tree_0 point_1 call_0).bind fun y_2 => some y_2) crew_0)).bind fun ys_3 => (minL ys_3).bind fun x_4 => (indexOf ys_3 x_4).bind fun x_5 => (setAt crew_0 x_5 call_0).bind fun led_6 => some (led_6, x_4)
abbrev lead_nearest_val : (List (Int × Int) × Int) → (List (Int × Int) × Int) := fun w => w
abbrev lead_nearest_emb : (List (Int × Int) × Int) → Env lead_nearest_ps := fun w => (none, none, none, ())
theorem lead_nearest_sim (tree_0 : TreeD) (crew_0 : List (Int × Int)) (call_0 : (Int × Int)) : Sim (lead_nearest_f tree_0 crew_0 call_0) (bodyF (ps := lead_nearest_ps) (ls := lead_nearest_ls) lead_nearest_m) ((some tree_0, some crew_0, some call_0, ()) : Env lead_nearest_ps) lead_nearest_val lead_nearest_emb := Sim.body (ps := lead_nearest_ps) (ls := lead_nearest_ls) (show SS (αs := lead_nearest_T) lead_nearest_m (ext lead_nearest_ls lead_nearest_ps ((some tree_0, some crew_0, some call_0, ()) : Env lead_nearest_ps)) (lead_nearest_f tree_0 crew_0 call_0) (Wf (ps := lead_nearest_ps) (ls := lead_nearest_ls) lead_nearest_val lead_nearest_emb) from (SS.of (SX.seq (SX.asg (SX.lcO (fun _ _ => own1) (SX.val (VX.v rfl) ⟨_, _, _, rfl, fun point_1 => (SX.val VX.c ⟨rfl, rfl⟩), fun point_1 => (SX.call (SX.aV (SX.val (VX.v rfl) (SX.aV (SX.val (VX.v rfl) (SX.aV (SX.val (VX.v rfl) (SX.aNil ⟨_, _, _, _, rfl, (T_distance_sim _ _ _), fun _ => (Full.v (Full.v (Full.v Full.nil))), fun y_2 => ⟨rfl, rfl⟩⟩)))))))), fun ys_3 => (SX.seq (SX.asg (SX.p1 (SX.val (VX.v rfl) ⟨_, rfl, fun x_4 => (SX.seq (SX.asg (SX.val (VX.t1 (VX.v rfl) rfl) (SX.seq (SX.setI (SX.val (VX.v rfl) ⟨⟨_, rfl⟩, (SX.p2 (SX.val (VX.v rfl) (SX.val (VX.v rfl) ⟨_, rfl, fun x_5 => ⟨_, rfl, _, rfl, fun led_6 => (SX.sret (SX.val (VX.t2 (VX.v rfl) (VX.v rfl) rfl) (Wf.mk (ps := lead_nearest_ps) (ls := lead_nearest_ls) (val := lead_nearest_val) (emb := lead_nearest_emb) (w := (led_6, x_4)) ⟨.inl rfl, ⟨.inl rfl, ⟨.inl rfl, trivial⟩⟩⟩)))⟩⟩)))⟩))))))⟩))))⟩))))))
/-! ### Tree.on_way -/
noncomputable def T_on_way_f (self_0 : TreeD) (point_0 : (Int × Int)) (one_0 : (Int × Int)) (other_0 : (Int × Int)) : Option Bool := (T_distance_f self_0 one_0 point_0).bind fun y_1 => (T_distance_f self_0 point_0 other_0).bind fun y_2 => (T_distance_f self_0 one_0 other_0).bind fun y_3 => some (decide ((y_1 + y_2) = y_3))
abbrev T_on_way_val : Bool → Bool := fun w => w
abbrev T_on_way_emb : Bool → Env T_on_way_ps := fun w => (none, none, none, none, ())
theorem T_on_way_sim (self_0 : TreeD) (point_0 : (Int × Int)) (one_0 : (Int × Int)) (other_0 : (Int × Int)) : Sim (T_on_way_f self_0 point_0 one_0 other_0) (bodyF (ps := T_on_way_ps) (ls := T_on_way_ls) T_on_way_m) ((some self_0, some point_0, some one_0, some other_0, ()) : Env T_on_way_ps) T_on_way_val T_on_way_emb := Sim.body (ps := T_on_way_ps) (ls := T_on_way_ls) (show SS (αs := T_on_way_T) T_on_way_m (ext T_on_way_ls T_on_way_ps ((some self_0, some point_0, some one_0, some other_0, ()) : Env T_on_way_ps)) (T_on_way_f self_0 point_0 one_0 other_0) (Wf (ps := T_on_way_ps) (ls := T_on_way_ls) T_on_way_val T_on_way_emb) from (SS.of (SX.sret (SX.t2 (SX.t2 (SX.call (SX.aV (SX.val (VX.v rfl) (SX.aV (SX.val (VX.v rfl) (SX.aV (SX.val (VX.v rfl) (SX.aNil ⟨_, _, _, _, rfl, (T_distance_sim _ _ _), fun _ => (Full.v (Full.v (Full.v Full.nil))), fun y_1 => (SX.call (SX.aV (SX.val (VX.v rfl) (SX.aV (SX.val (VX.v rfl) (SX.aV (SX.val (VX.v rfl) (SX.aNil ⟨_, _, _, _, rfl, (T_distance_sim _ _ _), fun _ => (Full.v (Full.v (Full.v Full.nil))), fun y_2 => ⟨_, rfl, (SX.call (SX.aV (SX.val (VX.v rfl) (SX.aV (SX.val (VX.v rfl) (SX.aV (SX.val (VX.v rfl) (SX.aNil ⟨_, _, _, _, rfl, (T_distance_sim _ _ _), fun _ => (Full.v (Full.v (Full.v Full.nil))), fun y_3 => ⟨_, rfl, (Wf.mk (ps := T_on_way_ps) (ls := T_on_way_ls) (val := T_on_way_val) (emb := T_on_way_emb) (w := (decide ((y_1 + y_2) = y_3))) ⟨.inl rfl, ⟨.inl rfl, ⟨.inl rfl, ⟨.inl rfl, trivial⟩⟩⟩⟩)⟩⟩))))))))⟩⟩))))))))⟩)))))))))))))
/-! ### Tree.towards -/
noncomputable def T_towards_f (self_0 : TreeD) (one_0 : (Int × Int)) (other_0 : (Int × Int)) (far_0 : Int) : Option (Int × Int) := (T_distance_f self_0 one_0 other_0).bind fun y_1 => (is_integer_f far_0).bind fun y_2 => (if (!y_2) = true then some true else some (!((decide ((0 : Int) ≤ far_0)) && (decide (far_0 ≤ y_1))))).bind fun b_3 => if b_3 = true then none else (T_height_f self_0 one_0).bind fun y_4 => (T_junction_f self_0 one_0 other_0).bind fun y_5 => if (decide (far_0 ≤ (y_4 - y_5))) = true then (T_raised_f self_0 one_0 far_0).bind fun y_6 => some y_6 else (T_raised_f self_0 other_0 (y_1 - far_0)).bind fun y_7 => some y_7
abbrev T_towards_val : (Int × Int) → (Int × Int) := fun w => w
abbrev T_towards_emb : (Int × Int) → Env T_towards_ps := fun w => (none, none, none, none, ())
theorem T_towards_sim (self_0 : TreeD) (one_0 : (Int × Int)) (other_0 : (Int × Int)) (far_0 : Int) : Sim (T_towards_f self_0 one_0 other_0 far_0) (bodyF (ps := T_towards_ps) (ls := T_towards_ls) T_towards_m) ((some self_0, some one_0, some other_0, some far_0, ()) : Env T_towards_ps) T_towards_val T_towards_emb := Sim.body (ps := T_towards_ps) (ls := T_towards_ls) (show SS (αs := T_towards_T) T_towards_m (ext T_towards_ls T_towards_ps ((some self_0, some one_0, some other_0, some far_0, ()) : Env T_towards_ps)) (T_towards_f self_0 one_0 other_0 far_0) (Wf (ps := T_towards_ps) (ls := T_towards_ls) T_towards_val T_towards_emb) from (SS.of (SX.seq (SX.asg (SX.call (SX.aV (SX.val (VX.v rfl) (SX.aV (SX.val (VX.v rfl) (SX.aV (SX.val (VX.v rfl) (SX.aNil ⟨_, _, _, _, rfl, (T_distance_sim _ _ _), fun _ => (Full.v (Full.v (Full.v Full.nil))), fun y_1 => (SX.seq (SX.sif (SX.or (SX.t1 (SX.call (SX.aV (SX.val (VX.v rfl) (SX.aNil ⟨_, _, _, _, rfl, (is_integer_sim _), fun _ => (Full.v Full.nil), fun y_2 => ⟨_, rfl, ⟨_, _, rfl, (SX.val (VX.t1 (VX.chn VX.c (VX.v rfl) (VX.v rfl) (ile_eq _ _) (ile_eq _ _)) rfl) ⟨rfl, rfl⟩), fun b_3 => ⟨_, _, rfl, SX.fail, (SX.skip (SX.seq (SX.sif (SX.t2 (SX.val (VX.v rfl) (SX.t2 (SX.call (SX.aV (SX.val (VX.v rfl) (SX.aV (SX.val (VX.v rfl) (SX.aNil ⟨_, _, _, _, rfl, (T_height_sim _ _), fun _ => (Full.v (Full.v Full.nil)), fun y_4 => (SX.call (SX.aV (SX.val (VX.v rfl) (SX.aV (SX.val (VX.v rfl) (SX.aV (SX.val (VX.v rfl) (SX.aNil ⟨_, _, _, _, rfl, (T_junction_sim _ _ _), fun _ => (Full.v (Full.v (Full.v Full.nil))), fun y_5 => ⟨_, rfl, ⟨_, ile_eq _ _, ⟨_, _, rfl, (SX.sret (SX.call (SX.aV (SX.val (VX.v rfl) (SX.aV (SX.val (VX.v rfl) (SX.aV (SX.val (VX.v rfl) (SX.aNil ⟨_, _, _, _, rfl, (T_raised_sim _ _ _), fun _ => (Full.v (Full.v (Full.v Full.nil))), fun y_6 => (Wf.mk (ps := T_towards_ps) (ls := T_towards_ls) (val := T_towards_val) (emb := T_towards_emb) (w := y_6) ⟨.inl rfl, ⟨.inl rfl, ⟨.inl rfl, ⟨.inl rfl, trivial⟩⟩⟩⟩)⟩))))))))), (SX.skip (SX.sret (SX.call (SX.aV (SX.val (VX.v rfl) (SX.aV (SX.val (VX.v rfl) (SX.aV (SX.val (VX.t2 (VX.v rfl) (VX.v rfl) rfl) (SX.aNil ⟨_, _, _, _, rfl, (T_raised_sim _ _ _), fun _ => (Full.v (Full.v (Full.v Full.nil))), fun y_7 => (Wf.mk (ps := T_towards_ps) (ls := T_towards_ls) (val := T_towards_val) (emb := T_towards_emb) (w := y_7) ⟨.inl rfl, ⟨.inl rfl, ⟨.inl rfl, ⟨.inl rfl, trivial⟩⟩⟩⟩)⟩))))))))))⟩⟩⟩⟩))))))))⟩))))))))))))⟩⟩⟩⟩))))))))⟩))))))))))))
/-! ### sees -/
noncomputable def sees_f (tree_0 : TreeD) (crew_0 : List (Int × Int)) (call_0 : (Int × Int)) (number_0 : Int) : Option Bool := (idx crew_0 number_0).bind fun x_1 => (forL (fun (s_2 : Unit) (other_3 : (Int × (Int × Int))) => (if (decide (other_3.2 = x_1)) = true then if (decide (other_3.1 < number_0)) = true then some (.rt false) else some (.nx ()) else (T_on_way_f tree_0 other_3.2 x_1 call_0).bind fun y_4 => if y_4 = true then some (.rt false) else some (.nx ()) : Option (Lp Unit Bool))) (enumF 0 crew_0) ()).bind (Lp.elim (fun s_2 => some true) (fun r_5 => some r_5))
abbrev sees_val : Bool → Bool := fun w => w
abbrev sees_emb : Bool → Env sees_ps := fun w => (none, none, none, none, ())
theorem sees_sim (tree_0 : TreeD) (crew_0 : List (Int × Int)) (call_0 : (Int × Int)) (number_0 : Int) : Sim (sees_f tree_0 crew_0 call_0 number_0) (bodyF (ps := sees_ps) (ls := sees_ls) sees_m) ((some tree_0, some crew_0, some call_0, some number_0, ()) : Env sees_ps) sees_val sees_emb := Sim.body (ps := sees_ps) (ls := sees_ls) (show SS (αs := sees_T) sees_m (ext sees_ls sees_ps ((some tree_0, some crew_0, some call_0, some number_0, ()) : Env sees_ps)) (sees_f tree_0 crew_0 call_0 number_0) (Wf (ps := sees_ps) (ls := sees_ls) sees_val sees_emb) from (SS.seqX (SX.asg (SX.p2 (SX.val (VX.v rfl) (SX.val (VX.v rfl) ⟨_, rfl, fun x_1 => (SS.seq (SS.forL (αs := sees_T) (fun (s_2 : Unit) => ((some tree_0, some crew_0, some call_0, some number_0, some x_1, none, none, ()) : Env sees_T)) sees_val (fun w => ext sees_ls sees_ps (sees_emb w)) (SX.val (VX.t1 (VX.v rfl) rfl) ⟨_, _, _, _, rfl, ⟨.inr rfl, .inr rfl, .inr rfl, .inr rfl, .inr rfl, .inl rfl, .inl rfl, trivial⟩, fun s_2 other_3 => (SS.of (SX.sif (SX.val (VX.t2 (VX.v rfl) (VX.v rfl) rfl) ⟨_, _, rfl, (SX.sif (SX.val (VX.t2 (VX.v rfl) (VX.v rfl) (ilt_eq _ _)) ⟨_, _, rfl, (SX.sret (SX.val VX.c (WL.rtI (αs := sees_T) (val := sees_val) (embR := (fun w => ext sees_ls sees_ps (sees_emb w))) (r := false) (Le.ext ⟨.inl rfl, ⟨.inl rfl, ⟨.inl rfl, ⟨.inl rfl, trivial⟩⟩⟩⟩)))), (SX.skip (WL.nxI (.inl rfl) ⟨.inr rfl, .inr rfl, .inr rfl, .inr rfl, .inr rfl, .inl rfl, .inl rfl, trivial⟩))⟩)), (SX.sif (SX.call (SX.aV (SX.val (VX.v rfl) (SX.aV (SX.val (VX.v rfl) (SX.aV (SX.val (VX.v rfl) (SX.aV (SX.val (VX.v rfl) (SX.aNil ⟨_, _, _, _, rfl, (T_on_way_sim _ _ _ _), fun _ => (Full.v (Full.v (Full.v (Full.v Full.nil)))), fun y_4 => ⟨_, _, rfl, (SX.sret (SX.val VX.c (WL.rtI (αs := sees_T) (val := sees_val) (embR := (fun w => ext sees_ls sees_ps (sees_emb w))) (r := false) (Le.ext ⟨.inl rfl, ⟨.inl rfl, ⟨.inl rfl, ⟨.inl rfl, trivial⟩⟩⟩⟩)))), (SX.skip (WL.nxI (.inl rfl) ⟨.inr rfl, .inr rfl, .inr rfl, .inr rfl, .inr rfl, .inl rfl, .inl rfl, trivial⟩))⟩⟩)))))))))))⟩))), fun s_2 => (SS.of (SX.sret (SX.val VX.c (Wf.mk (ps := sees_ps) (ls := sees_ls) (val := sees_val) (emb := sees_emb) (w := true) ⟨.inl rfl, ⟨.inl rfl, ⟨.inl rfl, ⟨.inl rfl, trivial⟩⟩⟩⟩)))), fun r_5 => (Wf.rt (ps := sees_ps) (ls := sees_ls) r_5)⟩)))⟩))))))
/-! ### seers -/
noncomputable def seers_f (tree_0 : TreeD) (crew_0 : List (Int × Int)) (call_0 : (Int × Int)) : Option (List Int) := (rng (crew_0.length : Int)).bind fun x_1 => (cap x_1 (lcO (fun (number_2 : Int) => (sees_f tree_0 crew_0 call_0 number_2).bind fun y_3 => some y_3) (fun number_2 => some number_2) x_1)).bind fun ys_4 => some ys_4
abbrev seers_val : (List Int) → (List Int) := fun w => w
abbrev seers_emb : (List Int) → Env seers_ps := fun w => (none, none, none, ())
theorem seers_sim (tree_0 : TreeD) (crew_0 : List (Int × Int)) (call_0 : (Int × Int)) : Sim (seers_f tree_0 crew_0 call_0) (bodyF (ps := seers_ps) (ls := seers_ls) seers_m) ((some tree_0, some crew_0, some call_0, ()) : Env seers_ps) seers_val seers_emb := Sim.body (ps := seers_ps) (ls := seers_ls) (show SS (αs := seers_T) seers_m (ext seers_ls seers_ps ((some tree_0, some crew_0, some call_0, ()) : Env seers_ps)) (seers_f tree_0 crew_0 call_0) (Wf (ps := seers_ps) (ls := seers_ls) seers_val seers_emb) from (SS.of (SX.sret (SX.lcO (fun _ _ => own1) (SX.p1 (SX.val (VX.t1 (VX.v rfl) rfl) ⟨_, rfl, fun x_1 => ⟨_, _, _, rfl, fun number_2 => (SX.call (SX.aV (SX.val (VX.v rfl) (SX.aV (SX.val (VX.v rfl) (SX.aV (SX.val (VX.v rfl) (SX.aV (SX.val (VX.v rfl) (SX.aNil ⟨_, _, _, _, rfl, (sees_sim _ _ _ _), fun _ => (Full.v (Full.v (Full.v (Full.v Full.nil)))), fun y_3 => ⟨rfl, rfl⟩⟩)))))))))), fun number_2 => (SX.val (VX.v rfl) ⟨rfl, rfl⟩), fun ys_4 => (Wf.mk (ps := seers_ps) (ls := seers_ls) (val := seers_val) (emb := seers_emb) (w := ys_4) ⟨.inl rfl, ⟨.inl rfl, ⟨.inl rfl, trivial⟩⟩⟩)⟩⟩))))))
/-! ### lead_both -/
noncomputable def lead_both_f (tree_0 : TreeD) (crew_0 : List (Int × Int)) (call_0 : (Int × Int)) : Option (List (Int × Int) × Int) := (whL (fun (s_1 : (List (Int × Int) × Int)) => some (!memB call_0 s_1.1)) (fun s_1 => ((seers_f tree_0 s_1.1 call_0).bind fun y_2 => (cap y_2 (lcO (fun (number_3 : Int) => some true) (fun number_3 => (idx s_1.1 number_3).bind fun x_4 => some x_4) y_2)).bind fun ys_5 => (next_change_f tree_0 ys_5 call_0).bind fun y_6 => (forM (fun (s_7 : List (Int × Int)) (number_8 : Int) => (idx s_7 number_8).bind fun x_10 => (T_towards_f tree_0 x_10 call_0 y_6).bind fun y_11 => (setAt s_7 number_8 y_11).bind fun led_12 => some led_12) y_2 s_1.1).bind fun s_7 => (imul y_6 (y_2.length : Int)).bind fun x_9 => some (.nx (s_7, (s_1.2 + x_9))) : Option (Lp (List (Int × Int) × Int) (List (Int × Int) × Int)))) (crew_0, (0 : Int))).bind (Lp.elim (fun s_1 => some (s_1.1, s_1.2)) (fun r_13 => some r_13))
abbrev lead_both_val : (List (Int × Int) × Int) → (List (Int × Int) × Int) := fun w => w
abbrev lead_both_emb : (List (Int × Int) × Int) → Env lead_both_ps := fun w => (none, none, none, ())
theorem lead_both_sim (tree_0 : TreeD) (crew_0 : List (Int × Int)) (call_0 : (Int × Int)) : Sim (lead_both_f tree_0 crew_0 call_0) (bodyF (ps := lead_both_ps) (ls := lead_both_ls) lead_both_m) ((some tree_0, some crew_0, some call_0, ()) : Env lead_both_ps) lead_both_val lead_both_emb := Sim.body (ps := lead_both_ps) (ls := lead_both_ls) (show SS (αs := lead_both_T) lead_both_m (ext lead_both_ls lead_both_ps ((some tree_0, some crew_0, some call_0, ()) : Env lead_both_ps)) (lead_both_f tree_0 crew_0 call_0) (Wf (ps := lead_both_ps) (ls := lead_both_ls) lead_both_val lead_both_emb) from (SS.seqX (SX.asg (SX.val (VX.t1 (VX.v rfl) rfl) (SS.seqX (SX.asg (SX.val VX.c (SS.seq (SS.whL (αs := lead_both_T) (fun (s_1 : (List (Int × Int) × Int)) => ((some tree_0, some crew_0, some call_0, some s_1.1, some s_1.2, none, none, none, ()) : Env lead_both_T)) lead_both_val (fun w => ext lead_both_ls lead_both_ps (lead_both_emb w)) ⟨.inr rfl, .inr rfl, .inr rfl, .inr rfl, .inr rfl, .inl rfl, .inl rfl, .inl rfl, trivial⟩ (fun s_1 => (SX.val (VX.t2 (VX.v rfl) (VX.v rfl) rfl) ⟨rfl, rfl⟩)) (fun s_1 => (SS.seqX (SX.asg (SX.call (SX.aV (SX.val (VX.v rfl) (SX.aV (SX.val (VX.v rfl) (SX.aV (SX.val (VX.v rfl) (SX.aNil ⟨_, _, _, _, rfl, (seers_sim _ _ _), fun _ => (Full.v (Full.v (Full.v Full.nil))), fun y_2 => (SS.seqX (SX.asg (SX.call (SX.aV (SX.val (VX.v rfl) (SX.aV (SX.lcO (fun _ _ => own1) (SX.val (VX.v rfl) ⟨_, _, _, rfl, fun number_3 => (SX.val VX.c ⟨rfl, rfl⟩), fun number_3 => (SX.p2 (SX.val (VX.v rfl) (SX.val (VX.v rfl) ⟨_, rfl, fun x_4 => ⟨rfl, rfl⟩⟩))), fun ys_5 => (SX.aV (SX.val (VX.v rfl) (SX.aNil ⟨_, _, _, _, rfl, (next_change_sim _ _ _), fun _ => (Full.v (Full.v (Full.v Full.nil))), fun y_6 => (SS.seq (SS.forM (αs := lead_both_T) (fun (s_7 : List (Int × Int)) => ((some tree_0, some crew_0, some call_0, some s_7, some s_1.2, some y_2, some y_6, none, ()) : Env lead_both_T)) (SX.val (VX.v rfl) ⟨_, _, _, rfl, ⟨.inr rfl, .inr rfl, .inr rfl, .inr rfl, .inr rfl, .inr rfl, .inr rfl, .inl rfl, trivial⟩, fun s_7 number_8 => (SS.of (SX.setI (SX.call (SX.aV (SX.val (VX.v rfl) (SX.aV (SX.p2 (SX.val (VX.v rfl) (SX.val (VX.v rfl) ⟨_, rfl, fun x_10 => (SX.aV (SX.val (VX.v rfl) (SX.aV (SX.val (VX.v rfl) (SX.aNil ⟨_, _, _, _, rfl, (T_towards_sim _ _ _ _), fun _ => (Full.v (Full.v (Full.v (Full.v Full.nil)))), fun y_11 => ⟨⟨_, rfl⟩, (SX.val (VX.v rfl) ⟨_, rfl, _, rfl, fun led_12 => (WM.mk (.inl rfl) ⟨.inr rfl, .inr rfl, .inr rfl, .inr rfl, .inr rfl, .inr rfl, .inr rfl, .inl rfl, trivial⟩)⟩)⟩⟩)))))⟩))))))))), fun s_7 => (SS.of (SX.aug rfl (SX.p2 (SX.val (VX.v rfl) (SX.val (VX.t1 (VX.v rfl) rfl) ⟨_, rfl, fun x_9 => ⟨_, rfl, (WL.nxI (.inl rfl) ⟨.inr rfl, .inr rfl, .inr rfl, .inr rfl, .inr rfl, .inl rfl, .inl rfl, .inl rfl, trivial⟩)⟩⟩)))))⟩)))⟩)))⟩))))))))⟩))))))))))) (fun s_1 => (SS.of (SX.sret (SX.val (VX.t2 (VX.v rfl) (VX.v rfl) rfl) (Wf.mk (ps := lead_both_ps) (ls := lead_both_ls) (val := lead_both_val) (emb := lead_both_emb) (w := (s_1.1, s_1.2)) ⟨.inl rfl, ⟨.inl rfl, ⟨.inl rfl, trivial⟩⟩⟩))))) (fun r_13 => (Wf.rt (ps := lead_both_ps) (ls := lead_both_ls) r_13)))))))))))
/-! ### lead -/
noncomputable def lead_f (tree_0 : TreeD) (rule_0 : RuleD) (crew_0 : List (Int × Int)) (call_0 : (Int × Int)) : Option (List (Int × Int) × Int) := if (decide (rule_0 = RuleD.near)) = true then (lead_nearest_f tree_0 crew_0 call_0).bind fun y_1 => some y_1 else (lead_both_f tree_0 crew_0 call_0).bind fun y_2 => some y_2
abbrev lead_val : (List (Int × Int) × Int) → (List (Int × Int) × Int) := fun w => w
abbrev lead_emb : (List (Int × Int) × Int) → Env lead_ps := fun w => (none, none, none, none, ())
theorem lead_sim (tree_0 : TreeD) (rule_0 : RuleD) (crew_0 : List (Int × Int)) (call_0 : (Int × Int)) : Sim (lead_f tree_0 rule_0 crew_0 call_0) (bodyF (ps := lead_ps) (ls := lead_ls) lead_m) ((some tree_0, some rule_0, some crew_0, some call_0, ()) : Env lead_ps) lead_val lead_emb := Sim.body (ps := lead_ps) (ls := lead_ls) (show SS (αs := lead_T) lead_m (ext lead_ls lead_ps ((some tree_0, some rule_0, some crew_0, some call_0, ()) : Env lead_ps)) (lead_f tree_0 rule_0 crew_0 call_0) (Wf (ps := lead_ps) (ls := lead_ls) lead_val lead_emb) from (SS.of (SX.seq (SX.sif (SX.val (VX.t1 (VX.v rfl) rfl) ⟨_, _, rfl, (SX.sret (SX.call (SX.aV (SX.val (VX.v rfl) (SX.aV (SX.val (VX.v rfl) (SX.aV (SX.val (VX.v rfl) (SX.aNil ⟨_, _, _, _, rfl, (lead_nearest_sim _ _ _), fun _ => (Full.v (Full.v (Full.v Full.nil))), fun y_1 => (Wf.mk (ps := lead_ps) (ls := lead_ls) (val := lead_val) (emb := lead_emb) (w := y_1) ⟨.inl rfl, ⟨.inl rfl, ⟨.inl rfl, ⟨.inl rfl, trivial⟩⟩⟩⟩)⟩))))))))), (SX.skip (SX.sret (SX.call (SX.aV (SX.val (VX.v rfl) (SX.aV (SX.val (VX.v rfl) (SX.aV (SX.val (VX.v rfl) (SX.aNil ⟨_, _, _, _, rfl, (lead_both_sim _ _ _), fun _ => (Full.v (Full.v (Full.v Full.nil))), fun y_2 => (Wf.mk (ps := lead_ps) (ls := lead_ls) (val := lead_val) (emb := lead_emb) (w := y_2) ⟨.inl rfl, ⟨.inl rfl, ⟨.inl rfl, ⟨.inl rfl, trivial⟩⟩⟩⟩)⟩))))))))))⟩)))))
/-! ### run -/
noncomputable def run_f (tree_0 : TreeD) (rule_0 : RuleD) (crew_0 : List (Int × Int)) (calls_0 : List (Int × Int)) : Option (List (Int × Int) × Int) := (forM (fun (s_1 : (List (Int × Int) × Int)) (call_2 : (Int × Int)) => (lead_f tree_0 rule_0 s_1.1 call_2).bind fun y_3 => some (y_3.1, (s_1.2 + y_3.2))) calls_0 (crew_0, (0 : Int))).bind fun s_1 => some (s_1.1, s_1.2)
abbrev run_val : (List (Int × Int) × Int) → (List (Int × Int) × Int) := fun w => w
abbrev run_emb : (List (Int × Int) × Int) → Env run_ps := fun w => (none, none, none, none, ())
theorem run_sim (tree_0 : TreeD) (rule_0 : RuleD) (crew_0 : List (Int × Int)) (calls_0 : List (Int × Int)) : Sim (run_f tree_0 rule_0 crew_0 calls_0) (bodyF (ps := run_ps) (ls := run_ls) run_m) ((some tree_0, some rule_0, some crew_0, some calls_0, ()) : Env run_ps) run_val run_emb := Sim.body (ps := run_ps) (ls := run_ls) (show SS (αs := run_T) run_m (ext run_ls run_ps ((some tree_0, some rule_0, some crew_0, some calls_0, ()) : Env run_ps)) (run_f tree_0 rule_0 crew_0 calls_0) (Wf (ps := run_ps) (ls := run_ls) run_val run_emb) from (SS.seqX (SX.asg (SX.val (VX.t1 (VX.v rfl) rfl) (SS.seqX (SX.asg (SX.val VX.c (SS.seq (SS.forM (αs := run_T) (fun (s_1 : (List (Int × Int) × Int)) => ((some tree_0, some rule_0, some crew_0, some calls_0, some s_1.1, some s_1.2, none, none, ()) : Env run_T)) (SX.val (VX.v rfl) ⟨_, _, _, rfl, ⟨.inr rfl, .inr rfl, .inr rfl, .inr rfl, .inr rfl, .inr rfl, .inl rfl, .inl rfl, trivial⟩, fun s_1 call_2 => (SS.of (SX.seq (SX.asgG (SX.call (SX.aV (SX.val (VX.v rfl) (SX.aV (SX.val (VX.v rfl) (SX.aV (SX.val (VX.v rfl) (SX.aV (SX.val (VX.v rfl) (SX.aNil ⟨_, _, _, _, rfl, (lead_sim _ _ _ _), fun _ => (Full.v (Full.v (Full.v (Full.v Full.nil)))), fun y_3 => (SX.aug rfl (SX.val (VX.v rfl) ⟨_, rfl, (WM.mk (.inl rfl) ⟨.inr rfl, .inr rfl, .inr rfl, .inr rfl, .inr rfl, .inr rfl, .inl rfl, .inl rfl, trivial⟩)⟩))⟩))))))))))))), fun s_1 => (SS.of (SX.sret (SX.val (VX.t2 (VX.v rfl) (VX.v rfl) rfl) (Wf.mk (ps := run_ps) (ls := run_ls) (val := run_val) (emb := run_emb) (w := (s_1.1, s_1.2)) ⟨.inl rfl, ⟨.inl rfl, ⟨.inl rfl, ⟨.inl rfl, trivial⟩⟩⟩⟩))))⟩))))))))))
/-! ### law -/
noncomputable def law_f (script_0 : List Int) : Option Bool := (l_source_f script_0).bind fun y_1 => (l_pick_f y_1 (2 : Int)).bind fun w_2 => (l_pick_f w_2.2 (13 : Int)).bind fun w_3 => ((l_pick_f w_3.2 (8 : Int)).bind fun w_5 => if (decide (w_5.1 = (7 : Int))) = true then some (w_5.2, (40 : Int)) else some (w_5.2, w_3.1) : Option (List Int × Int)).bind fun j_4 => (l_pick_f j_4.1 (j_4.2 + (1 : Int))).bind fun w_6 => (l_roads_f w_6.2 (0 : Int)).bind fun w_7 => (l_pick_f w_7.2 (4 : Int)).bind fun w_8 => (l_helpers_f w_8.2 w_7.1 ((1 : Int) + w_8.1)).bind fun w_9 => (l_calls_f w_9.2 w_7.1 w_9.1 j_4.2).bind fun w_10 => (T_init_f w_7.1).bind fun t_11 => (if (decide (w_2.1 = (1 : Int))) = true then some RuleD.near else some RuleD.both : Option RuleD).bind fun j_12 => (forL (fun (s_13 : (List (Int × Int) × Int)) (call_14 : (Int × Int)) => ((lead_f t_11 j_12 s_13.1 call_14).bind fun y_24 => (l_led_f w_7.1 w_2.1 s_13.1 call_14 y_24).bind fun y_25 => if (!y_25) = true then some (.rt false) else (cap y_24.1 (lcO (fun (point_26 : (Int × Int)) => some true) (fun point_26 => some (point_26.1, point_26.2)) y_24.1)).bind fun ys_27 => some (.nx (ys_27, (s_13.2 + y_24.2))) : Option (Lp (List (Int × Int) × Int) Bool))) w_10.1 (w_9.1, (0 : Int))).bind (Lp.elim (fun s_13 => (run_f t_11 j_12 w_9.1 w_10.1).bind fun y_15 => (l_is_pair_f w_7.1 y_15 (w_9.1.length : Int)).bind fun y_16 => (if (!y_16) = true then some true else some ((!decide (y_15.1 = s_13.1)) || (!decide (y_15.2 = s_13.2)))).bind fun b_17 => if b_17 = true then some false else (slcB w_10.1 w_6.1).bind fun x_18 => (run_f t_11 j_12 w_9.1 x_18).bind fun y_19 => (l_is_pair_f w_7.1 y_19 (w_9.1.length : Int)).bind fun y_20 => if (!y_20) = true then some false else (slcA w_10.1 w_6.1).bind fun x_21 => (run_f t_11 j_12 y_19.1 x_21).bind fun y_22 => (l_is_pair_f w_7.1 y_22 (w_9.1.length : Int)).bind fun y_23 => if (!y_23) = true then some false else some ((decide (y_22.1 = s_13.1)) && (decide ((y_19.2 + y_22.2) = s_13.2)))) (fun r_28 => some r_28))
abbrev law_val : Bool → Bool := fun w => w
abbrev law_emb : Bool → Env law_ps := fun w => (none, ())
theorem law_sim (script_0 : List Int) : Sim (law_f script_0) (bodyF (ps := law_ps) (ls := law_ls) law_m) ((some script_0, ()) : Env law_ps) law_val law_emb := Sim.body (ps := law_ps) (ls := law_ls) (show SS (αs := law_T) law_m (ext law_ls law_ps ((some script_0, ()) : Env law_ps)) (law_f script_0) (Wf (ps := law_ps) (ls := law_ls) law_val law_emb) from (SS.seqX (SX.asg (SX.call (SX.aV (SX.val (VX.v rfl) (SX.aNil ⟨_, _, _, _, rfl, (l_source_sim _), fun _ => (Full.v Full.nil), fun y_1 => (SS.seqX (SX.asg (SX.call (SX.aM rfl (SX.aV (SX.val VX.c (SX.aNil ⟨_, rfl, ⟨_, _, _, _, rfl, (l_pick_sim _ _), fun _ => (Full.m rfl (Full.v Full.nil)), fun w_2 => (SS.seqX (SX.asg (SX.call (SX.aM rfl (SX.aV (SX.val VX.c (SX.aNil ⟨_, rfl, ⟨_, _, _, _, rfl, (l_pick_sim _ _), fun _ => (Full.m rfl (Full.v Full.nil)), fun w_3 => (SS.join (αs := law_T) (fun (j_4 : (List Int × Int)) => ((some script_0, some j_4.1, some w_2.1, some j_4.2, none, none, none, none, none, none, none, none, none, none, none, none, none, none, ()) : Env law_T)) (SS.of (SX.sif (SX.t2 (SX.call (SX.aM rfl (SX.aV (SX.val VX.c (SX.aNil ⟨_, rfl, ⟨_, _, _, _, rfl, (l_pick_sim _ _), fun _ => (Full.m rfl (Full.v Full.nil)), fun w_5 => (SX.val VX.c ⟨_, rfl, ⟨_, _, rfl, (SX.asg (SX.val VX.c ⟨_, rfl, rfl, ⟨.inr rfl, .inr rfl, .inr rfl, .inr rfl, .inl rfl, .inl rfl, .inl rfl, .inl rfl, .inl rfl, .inl rfl, .inl rfl, .inl rfl, .inl rfl, .inl rfl, .inl rfl, .inl rfl, .inl rfl, .inl rfl, trivial⟩⟩)), (SX.skip ⟨_, rfl, rfl, ⟨.inr rfl, .inr rfl, .inr rfl, .inr rfl, .inl rfl, .inl rfl, .inl rfl, .inl rfl, .inl rfl, .inl rfl, .inl rfl, .inl rfl, .inl rfl, .inl rfl, .inl rfl, .inl rfl, .inl rfl, .inl rfl, trivial⟩⟩)⟩⟩)⟩⟩)))))))) fun j_4 => (SS.seqX (SX.asg (SX.call (SX.aM rfl (SX.aV (SX.val (VX.t2 (VX.v rfl) VX.c rfl) (SX.aNil ⟨_, rfl, ⟨_, _, _, _, rfl, (l_pick_sim _ _), fun _ => (Full.m rfl (Full.v Full.nil)), fun w_6 => (SS.seqX (SX.asg (SX.call (SX.aM rfl (SX.aV (SX.val VX.c (SX.aNil ⟨_, rfl, ⟨_, _, _, _, rfl, (l_roads_sim _ _), fun _ => (Full.m rfl (Full.v Full.nil)), fun w_7 => (SS.seqX (SX.asg (SX.call (SX.aM rfl (SX.aV (SX.val (VX.v rfl) (SX.aV (SX.t2 (SX.val VX.c (SX.call (SX.aM rfl (SX.aV (SX.val VX.c (SX.aNil ⟨_, rfl, ⟨_, _, _, _, rfl, (l_pick_sim _ _), fun _ => (Full.m rfl (Full.v Full.nil)), fun w_8 => ⟨_, rfl, (SX.aNil ⟨_, rfl, ⟨_, _, _, _, rfl, (l_helpers_sim _ _ _), fun _ => (Full.m rfl (Full.v (Full.v Full.nil))), fun w_9 => (SS.seqX (SX.asg (SX.call (SX.aM rfl (SX.aV (SX.val (VX.v rfl) (SX.aV (SX.val (VX.v rfl) (SX.aV (SX.val (VX.v rfl) (SX.aNil ⟨_, rfl, ⟨_, _, _, _, rfl, (l_calls_sim _ _ _ _), fun _ => (Full.m rfl (Full.v (Full.v (Full.v Full.nil)))), fun w_10 => (SS.seqX (SX.asg (SX.t1 (SX.make (SX.aV (SX.val (VX.t1 (VX.v rfl) rfl) (SX.aNil ⟨_, _, _, _, _, rfl, (T_init_sim _), fun _ => rfl, fun t_11 => ⟨_, rfl, (SS.seqX (SX.asg (SX.val VX.c (SS.join (αs := law_T) (fun (j_12 : RuleD) => ((some script_0, some w_10.2, some w_2.1, some j_4.2, some w_6.1, some w_7.1, some w_9.1, some w_10.1, some t_11, some j_12, none, none, none, none, none, none, none, none, ()) : Env law_T)) (SS.of (SX.sif (SX.val (VX.t2 (VX.v rfl) VX.c rfl) ⟨_, _, rfl, (SX.asg (SX.val VX.c ⟨_, rfl, rfl, ⟨.inr rfl, .inr rfl, .inr rfl, .inr rfl, .inr rfl, .inr rfl, .inr rfl, .inr rfl, .inr rfl, .inr rfl, .inl rfl, .inl rfl, .inl rfl, .inl rfl, .inl rfl, .inl rfl, .inl rfl, .inl rfl, trivial⟩⟩)), (SX.skip ⟨_, rfl, rfl, ⟨.inr rfl, .inr rfl, .inr rfl, .inr rfl, .inr rfl, .inr rfl, .inr rfl, .inr rfl, .inr rfl, .inr rfl, .inl rfl, .inl rfl, .inl rfl, .inl rfl, .inl rfl, .inl rfl, .inl rfl, .inl rfl, trivial⟩⟩)⟩))) fun j_12 => (SS.seqX (SX.asg (SX.val (VX.t1 (VX.v rfl) rfl) (SS.seqX (SX.asg (SX.val VX.c (SS.seq (SS.forL (αs := law_T) (fun (s_13 : (List (Int × Int) × Int)) => ((some script_0, some w_10.2, some w_2.1, some j_4.2, some w_6.1, some w_7.1, some w_9.1, some w_10.1, some t_11, some j_12, some s_13.1, some s_13.2, none, none, none, none, none, none, ()) : Env law_T)) law_val (fun w => ext law_ls law_ps (law_emb w)) (SX.val (VX.v rfl) ⟨_, _, _, _, rfl, ⟨.inr rfl, .inr rfl, .inr rfl, .inr rfl, .inr rfl, .inr rfl, .inr rfl, .inr rfl, .inr rfl, .inr rfl, .inr rfl, .inr rfl, .inl rfl, .inl rfl, .inl rfl, .inl rfl, .inl rfl, .inl rfl, trivial⟩, fun s_13 call_14 => (SS.of (SX.seq (SX.asg (SX.call (SX.aV (SX.val (VX.v rfl) (SX.aV (SX.val (VX.v rfl) (SX.aV (SX.val (VX.t1 (VX.v rfl) rfl) (SX.aV (SX.val (VX.v rfl) (SX.aNil ⟨_, _, _, _, rfl, (lead_sim _ _ _ _), fun _ => (Full.v (Full.v (Full.v (Full.v Full.nil)))), fun y_24 => (SX.seq (SX.sif (SX.t1 (SX.call (SX.aV (SX.val (VX.v rfl) (SX.aV (SX.val (VX.v rfl) (SX.aV (SX.val (VX.v rfl) (SX.aV (SX.val (VX.v rfl) (SX.aV (SX.val (VX.v rfl) (SX.aNil ⟨_, _, _, _, rfl, (l_led_sim _ _ _ _ _), fun _ => (Full.v (Full.v (Full.v (Full.v (Full.v Full.nil))))), fun y_25 => ⟨_, rfl, ⟨_, _, rfl, (SX.sret (SX.val VX.c (WL.rtI (αs := law_T) (val := law_val) (embR := (fun w => ext law_ls law_ps (law_emb w))) (r := false) (Le.ext ⟨.inl rfl, trivial⟩)))), (SX.skip (SX.seq (SX.asg (SX.lcO (fun _ _ => own1) (SX.val (VX.t1 (VX.v rfl) rfl) ⟨_, _, _, rfl, fun point_26 => (SX.val VX.c ⟨rfl, rfl⟩), fun point_26 => (SX.val (VX.t2 (VX.t1 (VX.v rfl) rfl) (VX.t1 (VX.v rfl) rfl) rfl) ⟨rfl, rfl⟩), fun ys_27 => (SX.asg (SX.val (VX.t2 (VX.v rfl) (VX.t1 (VX.v rfl) rfl) rfl) (WL.nxI (.inl rfl) ⟨.inr rfl, .inr rfl, .inr rfl, .inr rfl, .inr rfl, .inr rfl, .inr rfl, .inr rfl, .inr rfl, .inr rfl, .inr rfl, .inr rfl, .inl rfl, .inl rfl, .inl rfl, .inl rfl, .inl rfl, .inl rfl, trivial⟩)))⟩)))))⟩⟩⟩)))))))))))))))⟩))))))))))))), fun s_13 => (SS.of (SX.seq (SX.asg (SX.call (SX.aV (SX.val (VX.v rfl) (SX.aV (SX.val (VX.v rfl) (SX.aV (SX.val (VX.t1 (VX.v rfl) rfl) (SX.aV (SX.val (VX.t1 (VX.v rfl) rfl) (SX.aNil ⟨_, _, _, _, rfl, (run_sim _ _ _ _), fun _ => (Full.v (Full.v (Full.v (Full.v Full.nil)))), fun y_15 => (SX.seq (SX.sif (SX.or (SX.t1 (SX.call (SX.aV (SX.val (VX.v rfl) (SX.aV (SX.val (VX.v rfl) (SX.aV (SX.val (VX.t1 (VX.v rfl) rfl) (SX.aNil ⟨_, _, _, _, rfl, (l_is_pair_sim _ _ _), fun _ => (Full.v (Full.v (Full.v Full.nil))), fun y_16 => ⟨_, rfl, ⟨_, _, rfl, (SX.val (VX.or (VX.t2 (VX.t1 (VX.v rfl) rfl) (VX.v rfl) rfl) (VX.t2 (VX.t1 (VX.v rfl) rfl) (VX.v rfl) rfl)) ⟨rfl, rfl⟩), fun b_17 => ⟨_, _, rfl, (SX.sret (SX.val VX.c (Wf.mk (ps := law_ps) (ls := law_ls) (val := law_val) (emb := law_emb) (w := false) ⟨.inl rfl, trivial⟩))), (SX.skip (SX.seq (SX.asg (SX.call (SX.aV (SX.val (VX.v rfl) (SX.aV (SX.val (VX.v rfl) (SX.aV (SX.val (VX.t1 (VX.v rfl) rfl) (SX.aV (SX.p2 (SX.val (VX.v rfl) (SX.val (VX.v rfl) ⟨_, rfl, fun x_18 => (SX.aNil ⟨_, _, _, _, rfl, (run_sim _ _ _ _), fun _ => (Full.v (Full.v (Full.v (Full.v Full.nil)))), fun y_19 => (SX.seq (SX.sif (SX.t1 (SX.call (SX.aV (SX.val (VX.v rfl) (SX.aV (SX.val (VX.v rfl) (SX.aV (SX.val (VX.t1 (VX.v rfl) rfl) (SX.aNil ⟨_, _, _, _, rfl, (l_is_pair_sim _ _ _), fun _ => (Full.v (Full.v (Full.v Full.nil))), fun y_20 => ⟨_, rfl, ⟨_, _, rfl, (SX.sret (SX.val VX.c (Wf.mk (ps := law_ps) (ls := law_ls) (val := law_val) (emb := law_emb) (w := false) ⟨.inl rfl, trivial⟩))), (SX.skip (SX.seq (SX.asg (SX.call (SX.aV (SX.val (VX.v rfl) (SX.aV (SX.val (VX.v rfl) (SX.aV (SX.val (VX.t1 (VX.t1 (VX.v rfl) rfl) rfl) (SX.aV (SX.p2 (SX.val (VX.v rfl) (SX.val (VX.v rfl) ⟨_, rfl, fun x_21 => (SX.aNil ⟨_, _, _, _, rfl, (run_sim _ _ _ _), fun _ => (Full.v (Full.v (Full.v (Full.v Full.nil)))), fun y_22 => (SX.seq (SX.sif (SX.t1 (SX.call (SX.aV (SX.val (VX.v rfl) (SX.aV (SX.val (VX.v rfl) (SX.aV (SX.val (VX.t1 (VX.v rfl) rfl) (SX.aNil ⟨_, _, _, _, rfl, (l_is_pair_sim _ _ _), fun _ => (Full.v (Full.v (Full.v Full.nil))), fun y_23 => ⟨_, rfl, ⟨_, _, rfl, (SX.sret (SX.val VX.c (Wf.mk (ps := law_ps) (ls := law_ls) (val := law_val) (emb := law_emb) (w := false) ⟨.inl rfl, trivial⟩))), (SX.skip (SX.sret (SX.val (VX.and (VX.t2 (VX.t1 (VX.v rfl) rfl) (VX.v rfl) rfl) (VX.t2 (VX.t2 (VX.t1 (VX.v rfl) rfl) (VX.t1 (VX.v rfl) rfl) rfl) (VX.v rfl) rfl)) (Wf.mk (ps := law_ps) (ls := law_ls) (val := law_val) (emb := law_emb) (w := ((decide (y_22.1 = s_13.1)) && (decide ((y_19.2 + y_22.2) = s_13.2)))) ⟨.inl rfl, trivial⟩))))⟩⟩⟩)))))))))))⟩)⟩))))))))))))))⟩⟩⟩)))))))))))⟩)⟩))))))))))))))⟩⟩⟩⟩))))))))))))⟩))))))))))))), fun r_28 => (Wf.rt (ps := law_ps) (ls := law_ls) r_28)⟩)))))))))))))⟩⟩)))))))⟩⟩)))))))))))⟩⟩)⟩⟩⟩))))))))))))))⟩⟩)))))))⟩⟩))))))))⟩⟩)))))))⟩⟩)))))))⟩)))))))
end Lw
namespace Lm
open Lw Sm PySem Tw
local macro_rules | `(tactic| walk_at "pf") => `(tactic| simp only [Option.bind_some, Option.bind_none, decide_eq_true_eq, Bool.and_eq_true, Bool.or_eq_true, Bool.not_eq_true', decide_eq_false_iff_not, Bool.false_eq_true, Bool.true_eq_false, if_true, if_false, ite_true, ite_false, idx0, setAt0, elim_nx, elim_rt, elim_bk, Bool.not_true, Bool.not_false, Bool.and_true, Bool.true_and, Bool.and_false, Bool.false_and, Bool.or_true, Bool.true_or, Bool.or_false, Bool.false_or, bind_id, ipow_18', List.nil_append, ge_iff_le, gt_iff_lt])
/-- a point as the program has it -/
def ip (p : Pt) : Int × Int := ((p.1 : Int), (p.2 : Int))
theorem ip_inj {p q : Pt} (h : ip p = ip q) : p = q := by
  obtain ⟨a, b⟩ := p
  obtain ⟨c, d⟩ := q
  have h1 : (a : Int) = c := congrArg Prod.fst h
  have h2 : (b : Int) = d := congrArg Prod.snd h
  have h3 : a = c := by omega
  have h4 : b = d := by omega
  rw [h3, h4]
theorem ip_1 (p : Pt) : (ip p).1 = (p.1 : Int) := rfl
theorem ip_2 (p : Pt) : (ip p).2 = (p.2 : Int) := rfl
theorem ip_iff {p q : Pt} : ip p = ip q ↔ p = q := ⟨ip_inj, fun h => by rw [h]⟩
theorem ips_iff {p q : List Pt} : p.map ip = q.map ip ↔ p = q := ⟨fun h => (List.map_inj_right fun _ _ e => ip_inj e).mp h, fun h => by rw [h]⟩
theorem ip_mem {p : Pt} {c : List Pt} : ip p ∈ c.map ip ↔ p ∈ c := ⟨fun h => by
  obtain ⟨q, h1, h2⟩ := List.mem_map.mp h
  rw [← ip_inj h2]; exact h1, fun h => List.mem_map_of_mem h⟩
theorem Vp.node' {rs : Rds} {v : Nat} (h : v ≤ rs.length) : Vp rs (v, 0) := ⟨h, len_pos _ _⟩
theorem road_at {rs : Rds} {L : Int} (V : Vr rs L) {v : Nat} (h0 : v ≠ 0) (h : v ≤ rs.length) : ∃ pa le, idx rs ((v : Int) - 1) = some (pa, le) ∧ (par rs v : Int) = pa ∧ (len rs v : Int) = le ∧ 1 ≤ le ∧ le ≤ L := by
  obtain ⟨⟨pa, le⟩, hab⟩ : ∃ x, rs[v - 1]? = some x := ⟨_, List.getElem?_eq_getElem (by omega)⟩
  have e1 := V.len_eq hab
  have e2 := V.par_eq hab
  rw [show v - 1 + 1 = v by omega] at e1 e2
  obtain ⟨_, _, h3, h4⟩ := V (v - 1) pa le hab
  exact ⟨pa, le, by rw [show (v : Int) - 1 = ((v - 1 : Nat) : Int) by omega]; exact idx_nat hab, e2, e1, h3, h4⟩
theorem eraseIdx_map' {α β : Type} (f : α → β) : ∀ (xs : List α) (i : Nat), (xs.map f).eraseIdx i = (xs.eraseIdx i).map f
  | [], _ => rfl
  | _ :: _, 0 => rfl
  | x :: xs, i + 1 => by
    show f x :: (xs.map f).eraseIdx i = f x :: (xs.eraseIdx i).map f
    rw [eraseIdx_map' f xs i]
theorem perm_eraseIdx {α : Type} : ∀ (xs : List α) (i : Nat) (h : i < xs.length), (xs[i] :: xs.eraseIdx i).Perm xs
  | x :: xs, 0, _ => List.Perm.refl _
  | x :: xs, i + 1, h => by
    have h' : i < xs.length := by simpa using h
    have ih := perm_eraseIdx xs i h'
    show (xs[i] :: x :: xs.eraseIdx i).Perm (x :: xs)
    exact (List.Perm.swap x xs[i] _).trans (ih.cons x)
theorem nats_of {k : Nat} : ∀ xs : List Int, (∀ y ∈ xs, ∃ j : Nat, y = (j : Int) ∧ j < k) → ∃ pl : List Nat, xs = pl.map (fun (n : Nat) => (n : Int)) ∧ ∀ i ∈ pl, i < k
  | [], _ => ⟨[], rfl, by simp⟩
  | y :: ys, h => by
    obtain ⟨pl, h1, h2⟩ := nats_of ys fun z hz => h z (List.mem_cons_of_mem _ hz)
    obtain ⟨j, h3, h4⟩ := h y List.mem_cons_self
    exact ⟨j :: pl, by rw [h1, h3]; rfl, fun i hi => by
      rcases List.mem_cons.mp hi with rfl | hi
      · exact h4
      · exact h2 i hi⟩
theorem indexOf_of {α : Type} [DecidableEq α] {xs : List α} {x : α} {j : Nat} (h : xs.findIdx? (fun y => decide (y = x)) = some j) : indexOf xs x = some (j : Int) := by
  unfold indexOf
  rw [h]; rfl
theorem indexOf_cast {os : List Nat} {i : Nat} (h : i ∈ os) : indexOf (os.map fun (n : Nat) => (n : Int)) (i : Int) = some ((os.idxOf i : Nat) : Int) := by
  refine indexOf_of ?_
  induction os with
  | nil => simp at h
  | cons y ys ih =>
    rw [List.map_cons, List.findIdx?_cons, List.idxOf_cons]
    by_cases e : y = i
    · subst e; simp
    · have e2 : ¬ ((y : Int) = (i : Int)) := by omega
      rw [ih (by rcases List.mem_cons.mp h with r | r; exact absurd r.symm e; exact r)]
      simp [e, e2, show (y == i) = false from by simp [e]]
theorem lcO_map' {α β γ : Type} {p : α → Option Bool} {g : α → Option β} {f : γ → α} : ∀ xs : List γ, lcO p g (xs.map f) = lcO (fun x => p (f x)) (fun x => g (f x)) xs
  | [] => rfl
  | x :: xs => by
    show ((p (f x)).bind fun b => if b = true then (g (f x)).bind fun y => (lcO p g (xs.map f)).bind fun ys => some (y :: ys) else lcO p g (xs.map f)) = _
    rw [lcO_map' xs]; rfl
theorem lcO_rng {β : Type} {p : Int → Option Bool} {g : Int → Option β} {n : Nat} (P : Nat → Bool) (G : Nat → β) (h : ∀ i, i < n → p (i : Int) = some (P i)) (k : ∀ i, i < n → P i = true → g (i : Int) = some (G i)) : lcO p g ((List.range n).map fun (i : Nat) => (i : Int)) = some (((List.range n).filter P).map G) := by
  rw [lcO_map']
  exact lcO_eq _ (fun i hi => h i (List.mem_range.mp hi)) fun i hi => k i (List.mem_range.mp hi)
theorem lcO_rngA {β : Type} {p : Int → Option Bool} {g : Int → Option β} {n : Nat} (G : Nat → β) (h : ∀ i, i < n → p (i : Int) = some true) (k : ∀ i, i < n → g (i : Int) = some (G i)) : lcO p g ((List.range n).map fun (i : Nat) => (i : Int)) = some ((List.range n).map G) := by
  rw [lcO_rng (fun _ => true) G h fun i hi _ => k i hi, List.filter_eq_self.mpr fun _ _ => rfl]
theorem castI_at {pl : List Nat} {j : Nat} (h : j < pl.length) : idx (pl.map fun (n : Nat) => (n : Int)) (j : Int) = some ((pl.getD j 0 : Nat) : Int) := by
  rw [mapI_at (List.getElem?_eq_getElem h), List.getD_eq_getElem?_getD, List.getElem?_eq_getElem h]; rfl
theorem ipI_at {c : List Pt} {j : Nat} (h : j < c.length) : idx (c.map ip) (j : Int) = some (ip (c.getD j (0, 0))) := by
  rw [mapI_at (List.getElem?_eq_getElem h), List.getD_eq_getElem?_getD, List.getElem?_eq_getElem h]; rfl
theorem getD_vp {rs : Rds} {c : List Pt} {j : Nat} (h : j < c.length) (hq : ∀ q ∈ c, Vp rs q) : Vp rs (c.getD j (0, 0)) := by
  rw [List.getD_eq_getElem?_getD, List.getElem?_eq_getElem h]; exact hq _ (List.getElem_mem h)
theorem sum_castN : ∀ xs : List Nat, (xs.map fun (n : Nat) => (n : Int)).sum = (xs.sum : Int)
  | [] => rfl
  | x :: xs => by rw [List.map_cons, List.sum_cons, List.sum_cons, sum_castN xs]; omega
theorem minL_cast {ws : List Nat} (h : ws ≠ []) : minL (ws.map fun (n : Nat) => (n : Int)) = some (leastN ws : Int) :=
  minL_of (List.mem_map_of_mem (leastN_mem h)) fun y hy => by
    obtain ⟨z, hz, rfl⟩ := List.mem_map.mp hy
    have := leastN_le hz
    omega
theorem ip_00 : ((0 : Int), (0 : Int)) = ip (0, 0) := rfl
theorem forL_any {α γ ω : Type} {B : Unit → α → Option (Lp Unit ω)} {g : γ → α} {pr : γ → Prop} [DecidablePred pr] {r : ω} : ∀ (xs : List γ) [Decidable (∃ y, y ∈ xs ∧ pr y)], (∀ y ∈ xs, B () (g y) = some (if pr y then .rt r else .nx ())) → forL B (xs.map g) () = some (if ∃ y, y ∈ xs ∧ pr y then .rt r else .nx ())
  | [], _, _ => by
    show some _ = _
    rw [if_neg (by simp)]
  | y :: ys, _, h => by
    rw [List.map_cons, forL, h y List.mem_cons_self, Option.bind_some]
    by_cases hp : pr y
    · rw [if_pos hp, if_pos ⟨y, List.mem_cons_self, hp⟩]
    · rw [if_neg hp]
      haveI : Decidable (∃ y, y ∈ ys ∧ pr y) := Classical.propDecidable _
      show forL B (ys.map g) () = _
      rw [forL_any ys fun z hz => h z (List.mem_cons_of_mem _ hz)]
      by_cases e : ∃ y, y ∈ ys ∧ pr y
      · obtain ⟨z, hz, pz⟩ := e
        rw [if_pos ⟨z, hz, pz⟩, if_pos ⟨z, List.mem_cons_of_mem _ hz, pz⟩]
      · have ne : ¬ ∃ z, z ∈ y :: ys ∧ pr z := fun ⟨z, hz, pz⟩ => by
          rcases List.mem_cons.mp hz with rfl | hz
          · exact hp pz
          · exact e ⟨z, hz, pz⟩
        rw [if_neg e, if_neg ne]
theorem enumF_map {c : List Pt} : enumF 0 (c.map ip) = (List.range c.length).map fun (j : Nat) => ((j : Int), ip (at_ c j)) := by
  refine List.ext_getElem? fun k => ?_
  rw [enumF_at, List.getElem?_map, List.getElem?_map]
  by_cases h : k < c.length
  · rw [List.getElem?_range h, List.getElem?_eq_getElem h, Nat.zero_add]
    show some (_, ip c[k]) = some (_, ip (c.getD k (0, 0)))
    rw [List.getD_eq_getElem?_getD, List.getElem?_eq_getElem h]
    rfl
  · rw [List.getElem?_eq_none (by omega), List.getElem?_eq_none (by simp; omega)]; rfl
theorem ipA {c : List Pt} {j : Nat} (h : j < c.length) : idx (c.map ip) (j : Int) = some (ip (at_ c j)) := ipI_at h
theorem memB_ip {p : Pt} {c : List Pt} : memB (ip p) (c.map ip) = decide (p ∈ c) := by rw [memB_eq]; exact decide_eq_decide.mpr ip_mem
theorem indexOf_ip {c : List Pt} {x : Pt} (h : x ∈ c) : indexOf (c.map ip) (ip x) = some ((c.idxOf x : Nat) : Int) := by
  refine indexOf_of ?_
  induction c with
  | nil => simp at h
  | cons y ys ih =>
    rw [List.map_cons, List.findIdx?_cons, List.idxOf_cons]
    by_cases e : y = x
    · subst e; simp
    · have e2 : ¬ (ip y = ip x) := fun z => e (ip_inj z)
      rw [ih (by rcases List.mem_cons.mp h with r | r; exact absurd r.symm e; exact r)]
      simp [e2, show (y == x) = false from by simp [e]]
theorem elim_on {α τ ω γ : Type} {B : τ → α → Option (Lp τ ω)} {xs : List α} {t : τ} {k : τ → Option γ} {j : ω → Option γ} {r : Option γ} (P : τ → Prop) (h : ∃ t', forL B xs t = some (.nx t') ∧ P t') (hk : ∀ t', P t' → k t' = r) : (forL B xs t).bind (Lp.elim k j) = r := by
  obtain ⟨t', e, p⟩ := h
  rw [e]; exact hk t' p
theorem forL_cut {α τ ω : Type} {B : τ → α → Option (Lp τ ω)} {xs : List α} {t : τ} {P Q : τ → Prop} (h : ∃ t', forL B xs t = some (.nx t') ∧ P t') (k : ∀ t', P t' → Q t') : ∃ t', forL B xs t = some (.nx t') ∧ Q t' := h.imp fun t' h => ⟨h.1, k t' h.2⟩
theorem bind_on {α β : Type} {o : Option α} {k : α → Option β} {r : Option β} (P : α → Prop) (h : Run o P) (hk : ∀ t, P t → k t = r) : o.bind k = r := by
  obtain ⟨t', rfl, p⟩ := h
  exact hk t' p
theorem pick_f {n k : Int} (h : 0 < k) (h2 : k < 1073741824) : l_pick_f [n] k = some (n % k, [n / k]) := by
  unfold l_pick_f
  walk_at "pf"
  rw [imod_pos h, idiv_pos h h2]
  rfl
theorem pick_ok (n k : Int) (h : 0 < k) (h2 : k < 1073741824) : ∃ (j : Nat) (m : Int), l_pick_f [n] k = some ((j : Int), [m]) ∧ (j : Int) < k := by
  refine ⟨(n % k).toNat, n / k, ?_, ?_⟩
  · rw [pick_f h h2]
    have := Int.emod_nonneg n (by omega : k ≠ 0)
    rw [show (((n % k).toNat : Nat) : Int) = n % k by omega]
  · have := Int.emod_lt_of_pos n h
    have := Int.emod_nonneg n (by omega : k ≠ 0)
    omega
theorem mixed_ok (c : Int) : ∃ v, l_mixed_f c = some v := by
  unfold l_mixed_f
  rw [imod_pos (by decide), rng_ok (by decide)]
  walk_at "pf"
  obtain ⟨t, e, _⟩ := forM_rng (n := (10 : Int).toNat) (g := fun (i : Nat) => (i : Int)) (t := (c % 2305843009213693907 + 2, (0 : Int))) (B := fun (s_2 : Int × Int) (k_3 : Int) => (imul s_2.1 s_2.1).bind fun x_5 => (imul x_5 (5 : Int)).bind fun x_6 => (imul s_2.1 (7907 : Int)).bind fun x_7 => (imul k_3 (1299709 : Int)).bind fun x_8 => (imod (((x_6 + x_7) + x_8) + (17 : Int)) (2305843009213693951 : Int)).bind fun x_9 => (imul s_2.2 (2305843009213693951 : Int)).bind fun x_10 => some (x_9, (x_10 + x_9))) (fun _ s => 0 ≤ s.1 ∧ s.1 < 2305843009213693951) (by show 0 ≤ c % 2305843009213693907 + 2 ∧ _ < _; omega) fun j t hj ht => by
    obtain ⟨n, t⟩ := t
    have h1 : 0 ≤ n := ht.1
    have h2 : n < 2305843009213693951 := ht.2
    rw [imul_l (by omega)]
    walk_at "pf"
    rw [imul_r (by decide), Option.bind_some, imul_l (by omega), Option.bind_some, imul_r (by decide), Option.bind_some, imod_pos (by decide), Option.bind_some, imul_r (by decide), Option.bind_some]
    exact ⟨_, rfl, Int.emod_nonneg _ (by decide), Int.emod_lt_of_pos _ (by decide)⟩
  rw [e]
  exact ⟨_, rfl⟩
theorem source_ok (ns : List Int) : ∃ n, l_source_f ns = some [n] := by
  unfold l_source_f
  obtain ⟨t, e, _⟩ := forM_run (xs := ns) (t := (0 : Int)) (B := fun (s_1 : Int) (cell_2 : Int) => (ipow (10 : Int) (18 : Int)).bind fun x_3 => if (decide (x_3 ≤ cell_2)) = true then (imul s_1 (1000003 : Int)).bind fun x_4 => (ipow (10 : Int) (18 : Int)).bind fun x_5 => some (x_4 + (cell_2 - x_5)) else (imul s_1 (1000003 : Int)).bind fun x_6 => (l_mixed_f cell_2).bind fun y_7 => some (x_6 + y_7)) (fun _ _ => True) trivial fun j x t hx ht => by
    obtain ⟨v, e⟩ := mixed_ok x
    walk_at "pf"
    refine Run.ite (fun h => ?_) (fun h => ?_)
    · rw [imul_r (by decide)]
      exact ⟨_, rfl, trivial⟩
    · rw [imul_r (by decide), e]
      exact ⟨_, rfl, trivial⟩
  rw [e]
  exact ⟨_, rfl⟩
theorem far_f {rs : Rds} {L : Int} (V : Vr rs L) (hl : rs.length ≤ 1000) {p q : Pt} (vp : Vp rs p) (vq : Vp rs q) : l_far_f rs (ip p) (ip q) = some (dist rs p q : Int) := by
  refine run_eq ?_
  unfold l_far_f
  rw [imul_l (by decide), Option.bind_some, rng_ok (by omega), Option.bind_some]
  refine Run.elim (forL_rng (n := (2 * (rs.length : Int) + 2).toNat) (g := fun (i : Nat) => (i : Int)) (fun i s => ∃ (v w : Pt) (f : Nat), Vp rs v ∧ Vp rs w ∧ v.1 + w.1 + i ≤ 2 * rs.length ∧ f + dist rs v w = dist rs p q ∧ s = ((f : Int), (v.1 : Int), (v.2 : Int), (w.1 : Int), (w.2 : Int)))
    (fun r => r = (dist rs p q : Int)) ⟨p, q, 0, vp, vq, by have := vp.1; have := vq.1; omega, by omega, rfl⟩ ?_) ?_ ?_
  · rintro i s hi ⟨⟨v, u⟩, ⟨w, h⟩, f, vv, vw, hm, hd, rfl⟩
    have hv1 : v ≤ rs.length := vv.1
    have hw1 : w ≤ rs.length := vw.1
    have hm : v + w + i ≤ 2 * rs.length := hm
    walk_at "pf"
    refine Run.ite (fun e => ?_) (fun e => ?_)
    · have e' : v = w := by omega
      subst e'
      refine ⟨_, rfl, ?_⟩
      show _ + (if _ then _ else _) = _
      rw [← dist_road vv vw]
      omega
    · refine Run.ite (fun g => ?_) (fun g => ?_)
      · obtain ⟨pa, le, eix, e2, e1, _⟩ := road_at V (v := v) (by omega) hv1
        rw [eix]
        walk_at "pf"
        have du := dist_up vv vw (by show w < v; omega)
        have hu : u < len rs v := vv.2
        have pl := par_lt (rs := rs) (v := v) (by omega)
        refine ⟨_, rfl, (par rs v, 0), (w, h), f + (len rs v - u), ⟨by show par rs v ≤ _; omega, len_pos _ _⟩, vw, by show par rs v + w + (i + 1) ≤ _; omega, by omega, ?_⟩
        have e3 : (f : Int) + le - (u : Int) = ((f + (len rs v - u) : Nat) : Int) := by omega
        rw [e3, ← e2]
        rfl
      · obtain ⟨pa, le, eix, e2, e1, _⟩ := road_at V (v := w) (by omega) hw1
        rw [eix]
        walk_at "pf"
        have du := dist_up vw vv (by show v < w; omega)
        rw [dist_comm rs (w, h), dist_comm rs (par rs w, 0)] at du
        have hu : h < len rs w := vw.2
        have pl := par_lt (rs := rs) (v := w) (by omega)
        refine ⟨_, rfl, (v, u), (par rs w, 0), f + (len rs w - h), vv, ⟨by show par rs w ≤ _; omega, len_pos _ _⟩, by show v + par rs w + (i + 1) ≤ _; omega, by omega, ?_⟩
        have e3 : (f : Int) + le - (h : Int) = ((f + (len rs w - h) : Nat) : Int) := by omega
        rw [e3, ← e2]
        rfl
  · rintro t ⟨v, w, f, _, _, hm, _⟩
    exfalso
    omega
  · rintro r rfl
    exact ⟨_, rfl, rfl⟩
theorem point_ok (n : Int) {rs : Rds} {L : Nat} (V : Vr rs L) (hL : L ≤ 1000) (hl : rs.length ≤ 1000) : ∃ (q : Pt) (m : Int), l_point_f [n] rs = some (ip q, [m]) ∧ Vp rs q := by
  unfold l_point_f
  obtain ⟨i, n1, e1, _⟩ := pick_ok n 2 (by decide) (by decide)
  obtain ⟨j, n2, e2, hj⟩ := pick_ok n1 ((rs.length : Int) + 1) (by omega) (by omega)
  simp only [e1, e2, Option.bind_some]
  walk_at "pf"
  by_cases h : (j : Int) = 0 ∨ (i : Int) = 0
  · rw [if_pos h]
    exact ⟨(j, 0), _, rfl, Vp.node' (by omega)⟩
  · rw [if_neg h]
    obtain ⟨pa, le, eix, _, e4, h1, h2⟩ := road_at V (v := j) (by omega) (by omega)
    obtain ⟨u, n3, e3, hu⟩ := pick_ok n2 le (by omega) (by omega)
    rw [eix]
    walk_at "pf"
    rw [e3]
    exact ⟨(j, u), _, rfl, by show j ≤ _; omega, by show u < len rs j; omega⟩
theorem roads_ok (n : Int) (least : Nat) (hl : least ≤ 9) : ∃ (rs : Rds) (m : Int) (L : Nat), l_roads_f [n] (least : Int) = some (rs, [m]) ∧ Vr rs L ∧ 1 ≤ L ∧ L ≤ 40 ∧ least ≤ rs.length ∧ rs.length ≤ 9 := by
  unfold l_roads_f
  obtain ⟨lo, n1, e1, hlo⟩ := pick_ok n 4 (by decide) (by decide)
  obtain ⟨L, eL, hL1, hL2⟩ : ∃ L : Nat, idx ((6 : Int) :: ((2 : Int) :: ((40 : Int) :: ((1 : Int) :: ([] : List Int))))) (lo : Int) = some (L : Int) ∧ 1 ≤ L ∧ L ≤ 40 := by
    have h : lo = 0 ∨ lo = 1 ∨ lo = 2 ∨ lo = 3 := by omega
    rcases h with rfl | rfl | rfl | rfl
    · exact ⟨6, idx_nat rfl, by decide, by decide⟩
    · exact ⟨2, idx_nat rfl, by decide, by decide⟩
    · exact ⟨40, idx_nat rfl, by decide, by decide⟩
    · exact ⟨1, idx_nat rfl, by decide, by decide⟩
  obtain ⟨sh, n2, e2, hsh⟩ := pick_ok n1 4 (by decide) (by decide)
  obtain ⟨ev, n3, e3, hev⟩ := pick_ok n2 3 (by decide) (by decide)
  obtain ⟨fi, n4, e4, hfi⟩ := pick_ok n3 (L : Int) (by omega) (by omega)
  obtain ⟨mo, n5, e5, hmo⟩ := pick_ok n4 (10 - (least : Int)) (by omega) (by omega)
  simp only [e1, eL, e2, e3, e4, e5, Option.bind_some]
  rw [rng2_ok (by omega), Option.bind_some, show ((1 : Int) + least + mo - 1).toNat = least + mo by omega]
  have key := forM_rng (n := least + mo) (g := fun (i : Nat) => (1 : Int) + (i : Int)) (t := (([n5], []) : List Int × List (Int × Int)))
    (B := fun (s_6 : (List Int × List (Int × Int))) (v_7 : Int) => (l_pick_f s_6.1 (L : Int)).bind fun w_10 => (if (decide ((ev : Int) = (2 : Int))) = true then some ((1 : Int) + (fi : Int)) else some ((1 : Int) + w_10.1) : Option Int).bind fun j_11 => (l_pick_f w_10.2 v_7).bind fun w_12 => (if (decide ((sh : Int) = (1 : Int))) = true then some (0 : Int) else some w_12.1 : Option Int).bind fun j_13 => (if (decide ((sh : Int) = (2 : Int))) = true then some (v_7 - (1 : Int)) else some j_13 : Option Int).bind fun j_14 => (appO s_6.2 (j_14, j_11)).bind fun roads_15 => some (w_12.2, roads_15))
    (fun i s => ∃ m : Int, s.1 = [m] ∧ Vr s.2 L ∧ s.2.length = i) ⟨n5, rfl, Vr.nil, rfl⟩ fun i s hi ⟨m, h1, V, hlen⟩ => by
      obtain ⟨s1, rs⟩ := s
      have h1 : s1 = [m] := h1
      subst h1
      have hlen : rs.length = i := hlen
      obtain ⟨l1, m1, f1, hl1⟩ := pick_ok m (L : Int) (by omega) (by omega)
      obtain ⟨p1, m2, f2, hp1⟩ := pick_ok m1 (1 + (i : Int)) (by omega) (by omega)
      simp only [f1, Option.bind_some, f2]
      have hle : ∃ le : Int, (if (decide ((ev : Int) = (2 : Int))) = true then some ((1 : Int) + (fi : Int)) else some ((1 : Int) + (l1 : Int)) : Option Int) = some le ∧ 1 ≤ le ∧ le ≤ L := by
        by_cases c : (decide ((ev : Int) = (2 : Int))) = true
        · rw [if_pos c]; exact ⟨_, rfl, by omega, by omega⟩
        · rw [if_neg c]; exact ⟨_, rfl, by omega, by omega⟩
      obtain ⟨le, g1, hle1, hle2⟩ := hle
      have hpa : ∃ pa : Int, (if (decide ((sh : Int) = (1 : Int))) = true then some (0 : Int) else some (p1 : Int) : Option Int) = some pa ∧ 0 ≤ pa ∧ pa ≤ i := by
        by_cases c : (decide ((sh : Int) = (1 : Int))) = true
        · rw [if_pos c]; exact ⟨_, rfl, by omega, by omega⟩
        · rw [if_neg c]; exact ⟨_, rfl, by omega, by omega⟩
      obtain ⟨pa, g2, hpa1, hpa2⟩ := hpa
      have hpb : ∃ pb : Int, (if (decide ((sh : Int) = (2 : Int))) = true then some ((1 : Int) + (i : Int) - (1 : Int)) else some pa : Option Int) = some pb ∧ 0 ≤ pb ∧ pb ≤ i := by
        by_cases c : (decide ((sh : Int) = (2 : Int))) = true
        · rw [if_pos c]; exact ⟨_, rfl, by omega, by omega⟩
        · rw [if_neg c]; exact ⟨_, rfl, by omega, by omega⟩
      obtain ⟨pb, g3, hpb1, hpb2⟩ := hpb
      rw [g1, Option.bind_some, g2, Option.bind_some, g3, Option.bind_some, appO_ok (by omega)]
      exact ⟨_, rfl, m2, rfl, V.snoc hpb1 (by omega) hle1 hle2, by simp [hlen]⟩
  obtain ⟨⟨s1, rs⟩, e, m, h1, V, hlen⟩ := key
  have h1 : s1 = [m] := h1
  subst h1
  have hlen : rs.length = least + mo := hlen
  rw [e]
  exact ⟨rs, m, L, rfl, V, hL1, hL2, by omega, by omega⟩
theorem helpers_ok (n : Int) {rs : Rds} {L : Nat} (V : Vr rs L) (hL : L ≤ 1000) (hl : rs.length ≤ 1000) (many : Nat) (hm : many ≤ 1000) : ∃ (c : List Pt) (m : Int), l_helpers_f [n] rs (many : Int) = some (c.map ip, [m]) ∧ c.length = many ∧ ∀ q ∈ c, Vp rs q := by
  unfold l_helpers_f
  rw [rng_ok (by omega), Option.bind_some, Int.toNat_natCast]
  have key := forM_rng (n := many) (g := fun (i : Nat) => (i : Int)) (t := (([n], []) : List Int × List (Int × Int)))
    (B := fun (s_1 : (List Int × List (Int × Int))) (k_2 : Int) => (l_pick_f s_1.1 (4 : Int)).bind fun w_4 => if ((decide (w_4.1 = (3 : Int))) && (decide ((0 : Int) < k_2))) = true then (l_pick_f w_4.2 k_2).bind fun w_5 => (idx s_1.2 w_5.1).bind fun x_6 => (appO s_1.2 x_6).bind fun crew_7 => some (w_5.2, crew_7) else (l_point_f w_4.2 rs).bind fun w_8 => (appO s_1.2 w_8.1).bind fun crew_9 => some (w_8.2, crew_9))
    (fun i s => ∃ (c : List Pt) (m : Int), s = ([m], c.map ip) ∧ c.length = i ∧ ∀ q ∈ c, Vp rs q) ⟨[], n, rfl, rfl, by simp⟩ fun i s hi ⟨c, m, hs, hc, hq⟩ => by
      subst hs
      obtain ⟨a, m1, f1, ha⟩ := pick_ok m 4 (by decide) (by decide)
      simp only [f1, Option.bind_some]
      refine Run.ite (fun h => ?_) (fun h => ?_)
      · simp only [Bool.and_eq_true, decide_eq_true_eq] at h
        obtain ⟨j, m2, f2, hj⟩ := pick_ok m1 (i : Int) h.2 (by omega)
        have hjl : j < c.length := by omega
        simp only [f2, Option.bind_some, mapI_at (List.getElem?_eq_getElem hjl)]
        rw [appO_ok (by rw [List.length_map]; omega)]
        exact ⟨_, rfl, c ++ [c[j]], m2, by rw [List.map_append]; rfl, by simp [hc], fun q h => by
          rcases List.mem_append.mp h with h | h
          · exact hq q h
          · rw [List.mem_singleton.mp h]; exact hq _ (List.getElem_mem hjl)⟩
      · obtain ⟨q, m2, f2, vq⟩ := point_ok m1 V hL hl
        simp only [f2, Option.bind_some]
        rw [appO_ok (by rw [List.length_map]; omega)]
        exact ⟨_, rfl, c ++ [q], m2, by rw [List.map_append]; rfl, by simp [hc], fun q' h => by
          rcases List.mem_append.mp h with h | h
          · exact hq q' h
          · rw [List.mem_singleton.mp h]; exact vq⟩
  obtain ⟨s, e, c, m, rfl, hc, hq⟩ := key
  rw [e]
  exact ⟨c, m, rfl, hc, hq⟩
theorem calls_ok (n : Int) {rs : Rds} {L : Nat} (V : Vr rs L) (hL : L ≤ 1000) (hl : rs.length ≤ 1000) {w : List Pt} (w0 : w ≠ []) (hw : w.length ≤ 1000) (vw : ∀ q ∈ w, Vp rs q) (many : Nat) (hm : many ≤ 1000) : ∃ (c : List Pt) (m : Int), l_calls_f [n] rs (w.map ip) (many : Int) = some (c.map ip, [m]) ∧ c.length = many ∧ ∀ q ∈ c, Vp rs q := by
  unfold l_calls_f
  rw [rng_ok (by omega), Option.bind_some, Int.toNat_natCast]
  have wl : 0 < ((w.map ip).length : Int) := by
    rw [List.length_map]
    have := List.length_pos_iff.mpr w0
    omega
  have key := forM_rng (n := many) (g := fun (i : Nat) => (i : Int)) (t := (([n], []) : List Int × List (Int × Int)))
    (B := fun (s_1 : (List Int × List (Int × Int))) (k_2 : Int) => (l_pick_f s_1.1 (5 : Int)).bind fun w_4 => if (decide (w_4.1 = (4 : Int))) = true then (l_pick_f w_4.2 ((w.map ip).length : Int)).bind fun w_5 => (idx (w.map ip) w_5.1).bind fun x_6 => (appO s_1.2 x_6).bind fun calls_7 => some (w_5.2, calls_7) else if ((decide (w_4.1 = (3 : Int))) && (decide ((0 : Int) < k_2))) = true then (l_pick_f w_4.2 k_2).bind fun w_8 => (idx s_1.2 w_8.1).bind fun x_9 => (appO s_1.2 x_9).bind fun calls_10 => some (w_8.2, calls_10) else (l_point_f w_4.2 rs).bind fun w_11 => (appO s_1.2 w_11.1).bind fun calls_12 => some (w_11.2, calls_12))
    (fun i s => ∃ (c : List Pt) (m : Int), s = ([m], c.map ip) ∧ c.length = i ∧ ∀ q ∈ c, Vp rs q) ⟨[], n, rfl, rfl, by simp⟩ fun i s hi ⟨c, m, hs, hc, hq⟩ => by
      subst hs
      have fin : ∀ (q : Pt) (m2 : Int), Vp rs q → Run ((appO (c.map ip) (ip q)).bind fun z => some (([m2] : List Int), z)) fun s => ∃ (c : List Pt) (m : Int), s = ([m], c.map ip) ∧ c.length = i + 1 ∧ ∀ q ∈ c, Vp rs q := fun q m2 vq => by
        rw [appO_ok (by rw [List.length_map]; omega)]
        exact ⟨_, rfl, c ++ [q], m2, by rw [List.map_append]; rfl, by simp [hc], fun q' h => by
          rcases List.mem_append.mp h with h | h
          · exact hq q' h
          · rw [List.mem_singleton.mp h]; exact vq⟩
      obtain ⟨a, m1, f1, ha⟩ := pick_ok m 5 (by decide) (by decide)
      simp only [f1, Option.bind_some]
      refine Run.ite (fun h => ?_) (fun h => ?_)
      · obtain ⟨j, m2, f2, hj⟩ := pick_ok m1 _ wl (by rw [List.length_map]; omega)
        have hjl : j < w.length := by rw [List.length_map] at hj; omega
        simp only [f2, Option.bind_some, mapI_at (List.getElem?_eq_getElem hjl)]
        exact fin _ _ (vw _ (List.getElem_mem hjl))
      refine Run.ite (fun h => ?_) (fun h => ?_)
      · simp only [Bool.and_eq_true, decide_eq_true_eq] at h
        obtain ⟨j, m2, f2, hj⟩ := pick_ok m1 (i : Int) h.2 (by omega)
        have hjl : j < c.length := by omega
        simp only [f2, Option.bind_some, mapI_at (List.getElem?_eq_getElem hjl)]
        exact fin _ _ (hq _ (List.getElem_mem hjl))
      · obtain ⟨q, m2, f2, vq⟩ := point_ok m1 V hL hl
        simp only [f2, Option.bind_some]
        exact fin _ _ vq
  obtain ⟨s, e, c, m, rfl, hc, hq⟩ := key
  rw [e]
  exact ⟨c, m, rfl, hc, hq⟩
theorem is_integer_eq (n : Int) : is_integer_f n = some true := rfl
theorem is_pair_eq (p : Int × Int) : is_pair_f p = some true := by
  unfold is_pair_f
  simp [is_integer_eq]
theorem init_f {rs : Rds} {L : Int} (V : Vr rs L) (hl : rs.length ≤ 1000) : T_init_f rs = some (mk rs) := by
  refine run_eq ?_
  unfold T_init_f
  have key := forM_run (xs := rs) (t := TreeD.mk [0] [1] [0]) (B := fun (s_1 : TreeD) (road_2 : (Int × Int)) => (is_pair_f road_2).bind fun y_3 => if (!y_3) = true then none else (some ((!((decide ((0 : Int) ≤ road_2.1)) && (decide (road_2.1 < (s_1.ps.length : Int))))) || (decide (road_2.2 < (1 : Int))))).bind fun x_4 => if x_4 = true then none else (tAdd s_1 road_2.1 road_2.2).bind fun t_5 => some t_5)
    (fun j s => s = ⟨0 :: (rs.take j).map fun x => x.1, 1 :: (rs.take j).map fun x => x.2, (List.range (j + 1)).map fun v => (ht rs v : Int)⟩) (by simp [ht_zero]) fun j x s hj hs => by
    obtain ⟨pa, le⟩ := x
    subst hs
    obtain ⟨v1, v2, v3, v4⟩ := V j pa le hj
    have hjl : j < rs.length := (List.getElem?_eq_some_iff.mp hj).1
    have l1 : (0 :: (rs.take j).map fun x : Int × Int => x.1).length = j + 1 := by simp; omega
    have l2 : (1 :: (rs.take j).map fun x : Int × Int => x.2).length = j + 1 := by simp; omega
    have e1 := V.par_eq hj
    have e2 := V.len_eq hj
    have hp1 : par rs (j + 1) < j + 1 := par_lt (by omega)
    have g : idx ((List.range (j + 1)).map fun v => (ht rs v : Int)) pa = some (ht rs (par rs (j + 1)) : Int) := by
      rw [← e1]; exact idx_nat (mk_hs rs hp1)
    have e3 : (ht rs (par rs (j + 1)) : Int) + le = ht rs (j + 1) := by rw [ht_pos (v := j + 1) (by omega), ← e2]; omega
    have l3 : ((List.range (j + 1)).map fun v => (ht rs v : Int)).length = j + 1 := by simp
    rw [is_pair_eq]
    walk_at "pf"
    rw [if_neg (by rw [l1]; simp; omega)]
    unfold tAdd
    walk_at "pf"
    rw [g]
    walk_at "pf"
    rw [if_pos (by rw [l1, l2, l3]; omega)]
    refine ⟨_, rfl, ?_⟩
    rw [List.take_succ, hj, e3, List.range_succ (n := j + 1)]
    simp
  obtain ⟨s, e, rfl⟩ := key
  rw [e]
  refine ⟨_, rfl, ?_⟩
  rw [List.take_of_length_le (Nat.le_refl _)]
  rfl
theorem contains_f {rs : Rds} {L : Int} (V : Vr rs L) (x : Int × Int) : T_contains_f (mk rs) x = some (inb rs x) := by
  unfold T_contains_f
  rw [is_pair_eq]
  walk_at "pf"
  have lps : ((mk rs).ps.length : Int) = rs.length + 1 := by simp [mk]
  rw [lps]
  by_cases h : 0 ≤ x.1 ∧ x.1 < (rs.length : Int) + 1
  · rw [if_pos h]
    by_cases h3 : 0 ≤ x.2
    · rw [if_pos h3]
      have e : idx (mk rs).ls x.1 = some (len rs x.1.toNat : Int) := by
        have := mk_ls V (v := x.1.toNat) (by omega)
        have := idx_nat this
        rw [show ((x.1.toNat : Nat) : Int) = x.1 by omega] at this
        exact this
      rw [e]
      refine congrArg some ?_
      unfold inb
      exact beq_dec ⟨fun h4 => ⟨h.1, by omega, h3, h4⟩, fun h4 => h4.2.2.2⟩
    · rw [if_neg h3]
      exact congrArg some (decide_eq_false fun h => h3 h.2.2.1).symm
  · rw [if_neg h]
    exact congrArg some (decide_eq_false fun h4 => h ⟨h4.1, by omega⟩).symm
theorem inb_of {rs : Rds} {p : Pt} (h : Vp rs p) : inb rs (ip p) = true := by
  refine decide_eq_true ⟨by rw [ip_1]; omega, by rw [ip_1]; have := h.1; omega, by rw [ip_2]; omega, ?_⟩
  rw [ip_1, ip_2]
  have := h.2
  simp only [Int.toNat_natCast]
  omega
theorem of_inb {rs : Rds} {x : Int × Int} (h : inb rs x = true) : ∃ p, Vp rs p ∧ x = ip p := by
  obtain ⟨h1, h2, h3, h4⟩ := of_decide_eq_true h
  refine ⟨(x.1.toNat, x.2.toNat), ⟨by show x.1.toNat ≤ _; omega, by show x.2.toNat < len rs x.1.toNat; omega⟩, ?_⟩
  refine Prod.ext ?_ ?_
  · rw [ip_1]; show x.1 = ((x.1.toNat : Nat) : Int); omega
  · rw [ip_2]; show x.2 = ((x.2.toNat : Nat) : Int); omega
theorem height_f {rs : Rds} {L : Int} (V : Vr rs L) {p : Pt} (hv : Vp rs p) : T_height_f (mk rs) (ip p) = some (hp rs p : Int) := by
  unfold T_height_f
  rw [contains_f V, inb_of hv]
  walk_at "pf"
  have e : idx (mk rs).hs (p.1 : Int) = some (ht rs p.1 : Int) := idx_nat (mk_hs rs (by have := hv.1; omega))
  rw [ip_1, ip_2, e]
  refine congrArg some ?_
  have := hv.le_ht
  unfold hp
  omega
theorem junction_f {rs : Rds} {L : Int} (V : Vr rs L) {p q : Pt} (h1 : Vp rs p) (h2 : Vp rs q) : T_junction_f (mk rs) (ip p) (ip q) = some (jn rs p q : Int) := by
  refine run_eq ?_
  unfold T_junction_f
  rw [height_f V h1, Option.bind_some, height_f V h2, Option.bind_some]
  refine Run.elim (whL_run (fun s => ∃ v w : Nat, v ≤ rs.length ∧ w ≤ rs.length ∧ lca rs v w = lca rs p.1 q.1 ∧ s = ((v : Int), (w : Int))) (fun s => s.1.toNat + s.2.toNat) (fun s => lca rs p.1 q.1 ≤ rs.length ∧ s.1 = (lca rs p.1 q.1 : Int)) (fun _ => False) ?_ _ ⟨p.1, q.1, h1.1, h2.1, rfl, rfl⟩) ?_ fun _ h => h.elim
  · rintro _ ⟨v, w, hv, hw, hl, rfl⟩
    refine ⟨_, rfl, ?_⟩
    by_cases e : (v : Int) = (w : Int)
    · right
      have e' : v = w := by omega
      rw [lca_eq e'] at hl
      exact ⟨by simp [e], by omega, by omega⟩
    · left
      refine ⟨by simp [e], ?_⟩
      walk_at "pf"
      refine Run.ite (fun g => ?_) (fun g => ?_)
      · have e3 : idx (mk rs).ps (v : Int) = some (par rs v : Int) := idx_nat (mk_ps V hv)
        rw [e3]
        have := par_lt (rs := rs) (v := v) (by omega)
        refine ⟨_, rfl, ⟨par rs v, w, by omega, hw, by rw [← hl, lca_gt (v := v) (by omega)], rfl⟩, ?_⟩
        show ((par rs v : Int)).toNat + ((w : Int)).toNat < ((v : Int)).toNat + ((w : Int)).toNat
        omega
      · have e3 : idx (mk rs).ps (w : Int) = some (par rs w : Int) := idx_nat (mk_ps V hw)
        rw [e3]
        have := par_lt (rs := rs) (v := w) (by omega)
        refine ⟨_, rfl, ⟨v, par rs w, hv, by omega, by rw [← hl, lca_lt (w := w) (by omega)], rfl⟩, ?_⟩
        show ((v : Int)).toNat + ((par rs w : Int)).toNat < ((v : Int)).toNat + ((w : Int)).toNat
        omega
  · rintro ⟨a, b⟩ ⟨hw, ha⟩
    have ha : a = (lca rs p.1 q.1 : Int) := ha
    subst ha
    have e3 : idx (mk rs).hs (lca rs p.1 q.1 : Int) = some (ht rs (lca rs p.1 q.1) : Int) := idx_nat (mk_hs rs (by omega))
    rw [e3]
    refine ⟨_, rfl, ?_⟩
    unfold jn
    split <;> split <;> omega
theorem distance_f {rs : Rds} {L : Int} (V : Vr rs L) {p q : Pt} (h1 : Vp rs p) (h2 : Vp rs q) : T_distance_f (mk rs) (ip p) (ip q) = some (dist rs p q : Int) := by
  unfold T_distance_f
  rw [height_f V h1, Option.bind_some, height_f V h2, Option.bind_some, junction_f V h1 h2, Option.bind_some, imul_l (by decide), Option.bind_some]
  have jl := jn_le rs p q
  refine congrArg some ?_
  unfold dist
  omega
theorem on_way_f {rs : Rds} {L : Int} (V : Vr rs L) {x p q : Pt} (h0 : Vp rs x) (h1 : Vp rs p) (h2 : Vp rs q) : T_on_way_f (mk rs) (ip x) (ip p) (ip q) = some (decide (dist rs p x + dist rs x q = dist rs p q)) := by
  unfold T_on_way_f
  rw [distance_f V h1 h0, Option.bind_some, distance_f V h0 h2, Option.bind_some, distance_f V h1 h2, Option.bind_some]
  exact congrArg some (beq_dec (by omega))
theorem l_is_integer_eq (n : Int) : l_is_integer_f n = some true := rfl
theorem lead_nearest_y {rs : Rds} {L : Int} (V : Vr rs L) {c : List Pt} (h0 : c ≠ []) (hl : c.length ≤ 1000) (hc : ∀ q ∈ c, Vp rs q) {call : Pt} (vc : Vp rs call) :
    lead_nearest_f (mk rs) (c.map ip) (ip call) = some ((nearS rs c call).1.map ip, ((nearS rs c call).2 : Int)) := by
  unfold lead_nearest_f
  have w0 : ways rs c call ≠ [] := fun e => h0 (List.map_eq_nil_iff.mp e)
  rw [cap_ok (by rw [List.length_map]; omega), lcO_map', lcO_map (G := fun p => ((dist rs p call : Nat) : Int)) c (fun _ _ => rfl) fun p hp => by rw [distance_f V (hc p hp) vc]; rfl, Option.bind_some]
  have e : c.map (fun p => ((dist rs p call : Nat) : Int)) = (ways rs c call).map fun (n : Nat) => (n : Int) := by unfold ways; rw [List.map_map]; rfl
  rw [e, minL_cast w0, Option.bind_some, indexOf_cast (leastN_mem w0), Option.bind_some, setAt_nat (by rw [List.length_map]; exact nearI_lt h0), Option.bind_some, ← List.map_set]
  rfl
theorem lead_near {rs : Rds} {L : Int} (V : Vr rs L) {c : List Pt} (h0 : c ≠ []) (hl : c.length ≤ 1000) (hc : ∀ q ∈ c, Vp rs q) {call : Pt} (vc : Vp rs call) :
    lead_f (mk rs) RuleD.near (c.map ip) (ip call) = some ((nearS rs c call).1.map ip, ((nearS rs c call).2 : Int)) := by
  unfold lead_f
  rw [if_pos (by simp), lead_nearest_y V h0 hl hc vc]
  rfl
theorem raised_y {rs : Rds} {L : Int} (V : Vr rs L) {p : Pt} (vp : Vp rs p) {k : Nat} (hk : k ≤ hp rs p) : T_raised_f (mk rs) (ip p) (k : Int) = some (ip (sts rs k p)) := by
  refine run_eq ?_
  unfold T_raised_f
  refine Run.elim (whL_run (fun s => ∃ (v u far : Nat), s = ((far : Int), (v : Int), (u : Int)) ∧ Vp rs (v, u) ∧ far ≤ hp rs (v, u) ∧ sts rs far (v, u) = sts rs k p) (fun s => s.2.1.toNat) (fun s => ∃ (v u far : Nat), s = ((far : Int), (v : Int), (u : Int)) ∧ sts rs k p = (v, u + far)) (fun _ => False) ?_ _ ⟨p.1, p.2, k, rfl, vp, hk, rfl⟩) ?_ fun _ h => h.elim
  · rintro _ ⟨v, u, far, rfl, vv, hf, hs⟩
    walk_at "pf"
    by_cases h0 : v = 0
    · subst h0
      rw [if_neg (by omega)]
      refine ⟨_, rfl, .inr ⟨rfl, 0, u, far, rfl, ?_⟩⟩
      have e := vv.zero rfl
      have e2 : u = 0 := congrArg Prod.snd e
      subst e2
      rw [show ((0, 0) : Pt) = (0, 0) from rfl, hp_zero] at hf
      have : far = 0 := by omega
      subst this
      rw [← hs]; rfl
    · rw [if_pos (by omega), show idx (mk rs).ls (v : Int) = some (len rs v : Int) from idx_nat (mk_ls V vv.1)]
      have vu : u < len rs v := vv.2
      refine ⟨_, rfl, ?_⟩
      by_cases hg : len rs v ≤ u + far
      · refine .inl ⟨by simp; omega, ?_⟩
        rw [show idx (mk rs).ps (v : Int) = some (par rs v : Int) from idx_nat (mk_ps V vv.1)]
        have pl := par_lt (rs := rs) (v := v) h0
        have vv2 : Vp rs (par rs v, 0) := ⟨by show par rs v ≤ _; have := vv.1; simp at this; omega, len_pos _ _⟩
        have eu := sts_up h0 vu
        have hh := vv.hp_sts (k := len rs v - u) (by omega)
        rw [eu] at hh
        refine ⟨_, rfl, ⟨par rs v, 0, far - (len rs v - u), ?_, vv2, by omega, ?_⟩, ?_⟩
        · show ((far : Int) - ((len rs v : Int) - (u : Int)), (par rs v : Int), (0 : Int)) = _
          refine Prod.ext ?_ rfl
          show (far : Int) - ((len rs v : Int) - (u : Int)) = ((far - (len rs v - u) : Nat) : Int)
          omega
        · rw [← hs, show far = (len rs v - u) + (far - (len rs v - u)) by omega, ← sts_add, eu]
          congr 1; omega
        · show ((par rs v : Int)).toNat < ((v : Int)).toNat
          omega
      · refine .inr ⟨by simp; omega, v, u, far, rfl, ?_⟩
        rw [← hs, sts_in h0 far u (by omega)]
  · rintro _ ⟨v, u, far, rfl, e⟩
    rw [e]
    exact ⟨_, rfl, rfl⟩
theorem towards_y {rs : Rds} {L : Int} (V : Vr rs L) {p x : Pt} (vp : Vp rs p) (vx : Vp rs x) {k : Nat} (hk : k ≤ dist rs p x) : T_towards_f (mk rs) (ip p) (ip x) (k : Int) = some (ip (tw rs p x k)) := by
  unfold T_towards_f
  rw [distance_f V vp vx, Option.bind_some, is_integer_eq]
  walk_at "pf"
  rw [if_neg (by simp; omega), height_f V vp, Option.bind_some, junction_f V vp vx, Option.bind_some]
  have jl := jn_le rs p x
  have hd : dist rs p x = hp rs p + hp rs x - 2 * jn rs p x := rfl
  unfold tw
  by_cases c : k ≤ hp rs p - jn rs p x
  · rw [if_pos (by omega), if_pos c, raised_y V vp (by omega)]
  · rw [if_neg (by omega), if_neg c, show (dist rs p x : Int) - (k : Int) = ((dist rs p x - k : Nat) : Int) by omega, raised_y V vx (by omega)]
open Classical in
theorem sees_y {rs : Rds} {L : Int} (V : Vr rs L) {c : List Pt} (hc : Vc rs c) {x : Pt} (vx : Vp rs x) {i : Nat} (hi : i < c.length) : sees_f (mk rs) (c.map ip) (ip x) (i : Int) = some (decide (Sees rs x c i)) := by
  unfold sees_f
  rw [ipA hi, Option.bind_some, enumF_map, forL_any (pr := fun j => Blk rs x c i j) (r := false) (List.range c.length) fun j hj => ?_]
  · by_cases s : Sees rs x c i
    · rw [if_neg fun ⟨j, hj, b⟩ => s j (List.mem_range.mp hj) b, Option.bind_some, elim_nx, decide_eq_true s]
    · obtain ⟨j, hj, b⟩ := not_sees s
      rw [if_pos ⟨j, List.mem_range.mpr hj, b⟩, Option.bind_some, elim_rt, decide_eq_false s]
  · have hj := List.mem_range.mp hj
    have vi := hc.at_ hi
    have vj := hc.at_ hj
    walk_at "pf"
    by_cases e : at_ c j = at_ c i
    · rw [if_pos (by rw [e])]
      by_cases lt : j < i
      · rw [if_pos (by omega), if_pos (.inl ⟨e, lt⟩)]
      · rw [if_neg (by omega), if_neg]
        rintro (⟨_, h⟩ | ⟨h, _⟩)
        · exact lt h
        · exact h e
    · rw [if_neg (fun z => e (ip_inj z)), on_way_f V vj vi vx]
      walk_at "pf"
      by_cases o : dist rs (at_ c i) (at_ c j) + dist rs (at_ c j) x = dist rs (at_ c i) x
      · rw [if_pos o, if_pos (.inr ⟨e, o⟩)]
      · rw [if_neg o, if_neg]
        rintro (⟨h, _⟩ | ⟨_, h⟩)
        · exact e h
        · exact o h
open Classical in
theorem seers_y {rs : Rds} {L : Int} (V : Vr rs L) {c : List Pt} (hl : c.length ≤ 1000) (hc : Vc rs c) {x : Pt} (vx : Vp rs x) : seers_f (mk rs) (c.map ip) (ip x) = some ((seersL rs x c).map fun (n : Nat) => (n : Int)) := by
  unfold seers_f
  rw [List.length_map, rng_ok (by omega), Option.bind_some, Int.toNat_natCast, cap_ok (by simp; omega)]
  rw [lcO_rng (fun i => decide (Sees rs x c i)) (fun i => (i : Int)) (fun i hi => by rw [sees_y V hc vx hi]; rfl) fun i hi _ => rfl]
  rfl
theorem next_y {rs : Rds} {L : Int} (V : Vr rs L) {ps : List Pt} (h0 : ps ≠ []) (hl : ps.length ≤ 1000) (hc : Vc rs ps) {x : Pt} (vx : Vp rs x) (h1 : ∀ i, i < ps.length → 1 ≤ dist rs (at_ ps i) x)
    (h2 : ∀ i j, i < ps.length → j < ps.length → i ≠ j → gr rs x (at_ ps i) (at_ ps j) < dist rs (at_ ps j) x) :
    ∃ far : Nat, next_change_f (mk rs) (ps.map ip) (ip x) = some (far : Int) ∧ 1 ≤ far ∧ (∀ i, i < ps.length → far ≤ dist rs (at_ ps i) x) ∧ ∀ i j, i < ps.length → j < ps.length → i ≠ j → far + gr rs x (at_ ps i) (at_ ps j) ≤ dist rs (at_ ps j) x := by
  have w0 : ways rs ps x ≠ [] := fun e => h0 (List.map_eq_nil_iff.mp e)
  have ew : ps.map (fun p => ((dist rs p x : Nat) : Int)) = (ways rs ps x).map fun (n : Nat) => (n : Int) := by unfold ways; rw [List.map_map]; rfl
  have wat : ∀ i, i < ps.length → idx ((ways rs ps x).map fun (n : Nat) => (n : Int)) (i : Int) = some (dist rs (at_ ps i) x : Int) := fun i hi => by
    rw [castI_at (by rw [ways_len]; exact hi)]
    unfold ways
    rw [List.getD_eq_getElem?_getD, List.getElem?_map, List.getElem?_eq_getElem hi, at_, List.getD_eq_getElem?_getD, List.getElem?_eq_getElem hi]; rfl
  unfold next_change_f
  rw [cap_ok (by rw [List.length_map]; omega), lcO_map', lcO_map (G := fun p => ((dist rs p x : Nat) : Int)) ps (fun _ _ => rfl) fun p hp => by rw [distance_f V (hc p hp) vx]; rfl, Option.bind_some, ew, minL_cast w0, Option.bind_some, enumF_map]
  have key := forM_rng (n := ps.length) (g := fun j => ((j : Int), ip (at_ ps j))) (t := (leastN (ways rs ps x) : Int))
    (B := fun (s_5 : Int) (number_6 : (Int × (Int × Int))) => (rng number_6.1).bind fun x_9 => (forM (fun (s_7 : Int) (other_8 : Int) => (idx ((ways rs ps x).map fun (n : Nat) => (n : Int)) number_6.1).bind fun x_10 => (idx ((ways rs ps x).map fun (n : Nat) => (n : Int)) other_8).bind fun x_11 => (idx (ps.map ip) other_8).bind fun x_12 => (T_distance_f (mk rs) number_6.2 x_12).bind fun y_13 => (idiv ((x_10 + x_11) - y_13) (2 : Int)).bind fun x_14 => (idx ((ways rs ps x).map fun (n : Nat) => (n : Int)) number_6.1).bind fun x_15 => (idx ((ways rs ps x).map fun (n : Nat) => (n : Int)) other_8).bind fun x_16 => some (if (x_16 - x_14) < (if (x_15 - x_14) < s_7 then (x_15 - x_14) else s_7) then (x_16 - x_14) else (if (x_15 - x_14) < s_7 then (x_15 - x_14) else s_7))) x_9 s_5).bind fun s_7 => some s_7)
    (fun i s => ∃ f : Nat, s = (f : Int) ∧ 1 ≤ f ∧ (∀ k, k < ps.length → f ≤ dist rs (at_ ps k) x) ∧ ∀ a b, a < i → b < a → f + gr rs x (at_ ps a) (at_ ps b) ≤ dist rs (at_ ps a) x ∧ f + gr rs x (at_ ps a) (at_ ps b) ≤ dist rs (at_ ps b) x) ?_ ?_
  · obtain ⟨s, e, f, rfl, g1, g2, g3⟩ := key
    rw [e]
    refine ⟨f, rfl, g1, g2, fun i j hi hj ij => ?_⟩
    rcases Nat.lt_or_gt_of_ne ij with h | h
    · have := (g3 j i hj h).1
      rw [gr_comm] at this
      exact this
    · exact (g3 i j hi h).2
  · refine ⟨_, rfl, ?_, fun k hk => leastN_le (at_ways hk), fun a b h => absurd h (Nat.not_lt_zero _)⟩
    have m := leastN_mem w0
    unfold ways at m
    obtain ⟨q, hq, e⟩ := List.mem_map.mp m
    obtain ⟨k, hk, rfl⟩ := List.getElem_of_mem hq
    have := h1 k hk
    rw [at_, List.getD_eq_getElem?_getD, List.getElem?_eq_getElem hk] at this
    unfold ways
    rw [← e]; exact this
  · rintro i s hi ⟨f, rfl, g1, g2, g3⟩
    have vi := hc.at_ hi
    dsimp only
    rw [rng_ok (by omega), Option.bind_some, Int.toNat_natCast]
    have key2 := forM_rng (n := i) (g := fun (j : Nat) => (j : Int)) (t := (f : Int))
      (B := fun (s_7 : Int) (other_8 : Int) => (idx ((ways rs ps x).map fun (n : Nat) => (n : Int)) (i : Int)).bind fun x_10 => (idx ((ways rs ps x).map fun (n : Nat) => (n : Int)) other_8).bind fun x_11 => (idx (ps.map ip) other_8).bind fun x_12 => (T_distance_f (mk rs) (ip (at_ ps i)) x_12).bind fun y_13 => (idiv ((x_10 + x_11) - y_13) (2 : Int)).bind fun x_14 => (idx ((ways rs ps x).map fun (n : Nat) => (n : Int)) (i : Int)).bind fun x_15 => (idx ((ways rs ps x).map fun (n : Nat) => (n : Int)) other_8).bind fun x_16 => some (if (x_16 - x_14) < (if (x_15 - x_14) < s_7 then (x_15 - x_14) else s_7) then (x_16 - x_14) else (if (x_15 - x_14) < s_7 then (x_15 - x_14) else s_7)))
      (fun j s => ∃ f : Nat, s = (f : Int) ∧ 1 ≤ f ∧ (∀ k, k < ps.length → f ≤ dist rs (at_ ps k) x) ∧ (∀ a b, a < i → b < a → f + gr rs x (at_ ps a) (at_ ps b) ≤ dist rs (at_ ps a) x ∧ f + gr rs x (at_ ps a) (at_ ps b) ≤ dist rs (at_ ps b) x) ∧ ∀ b, b < j → f + gr rs x (at_ ps i) (at_ ps b) ≤ dist rs (at_ ps i) x ∧ f + gr rs x (at_ ps i) (at_ ps b) ≤ dist rs (at_ ps b) x)
      ⟨f, rfl, g1, g2, g3, fun b h => absurd h (Nat.not_lt_zero _)⟩ fun j s hj ⟨f, hs, g1, g2, g3, g4⟩ => by
        subst hs
        have hjp : j < ps.length := by omega
        have vj := hc.at_ hjp
        have e2 := gr_two vx vi vj
        have a1 := h2 i j hi hjp (by omega)
        have a2 := h2 j i hjp hi (by omega)
        rw [gr_comm] at a2
        simp only [wat i hi, wat j hjp, ipA hjp, distance_f V vi vj, Option.bind_some]
        rw [idiv_pos (by decide) (by decide), Option.bind_some, show (((dist rs (at_ ps i) x : Nat) : Int) + (dist rs (at_ ps j) x : Int) - (dist rs (at_ ps i) (at_ ps j) : Int)) / 2 = (gr rs x (at_ ps i) (at_ ps j) : Int) by omega]
        obtain ⟨gg, hgg⟩ : ∃ gg, gg = gr rs x (at_ ps i) (at_ ps j) := ⟨_, rfl⟩
        rw [← hgg] at e2 a1 a2 ⊢
        refine ⟨_, rfl, min (min f (dist rs (at_ ps i) x - gg)) (dist rs (at_ ps j) x - gg), ?_, by omega, fun k hk => by have := g2 k hk; omega, fun a b ha hb => by have := g3 a b ha hb; omega, fun b hb => ?_⟩
        · split <;> split <;> omega
        · by_cases e : b = j
          · subst e
            rw [← hgg]
            omega
          · have := g4 b (by omega)
            omega
    obtain ⟨s, e, f2, rfl, k1, k2, k3, k4⟩ := key2
    rw [e]
    refine ⟨_, rfl, f2, rfl, k1, k2, fun a b ha hb => ?_⟩
    by_cases ea : a = i
    · subst ea; exact k4 b hb
    · exact k3 a b (by omega) hb
theorem lead_step {rs : Rds} {L : Int} (V : Vr rs L) {c : List Pt} (hc : Vc rs c) {x : Pt} (vx : Vp rs x) {far : Nat} (is : List Nat) (nd : is.Nodup) (hi : ∀ i, i ∈ is → i < c.length ∧ far ≤ dist rs (at_ c i) x) :
    forM (fun (s_7 : List (Int × Int)) (number_8 : Int) => (idx s_7 number_8).bind fun x_10 => (T_towards_f (mk rs) x_10 (ip x) (far : Int)).bind fun y_11 => (setAt s_7 number_8 y_11).bind fun led_12 => some led_12) (is.map fun (n : Nat) => (n : Int)) (c.map ip) = some (((List.range c.length).map fun i => if i ∈ is then tw rs (at_ c i) x far else at_ c i).map ip) := by
  have key : ∀ (js : List Nat) (d : List Pt), d.length = c.length → js.Nodup → (∀ j, j ∈ js → j < c.length ∧ far ≤ dist rs (at_ c j) x ∧ at_ d j = at_ c j) →
      forM (fun (s_7 : List (Int × Int)) (number_8 : Int) => (idx s_7 number_8).bind fun x_10 => (T_towards_f (mk rs) x_10 (ip x) (far : Int)).bind fun y_11 => (setAt s_7 number_8 y_11).bind fun led_12 => some led_12) (js.map fun (n : Nat) => (n : Int)) (d.map ip) = some (((List.range c.length).map fun i => if i ∈ js then tw rs (at_ c i) x far else at_ d i).map ip) := by
    intro js
    induction js with
    | nil =>
      intro d hd _ _
      show some _ = some _
      refine congrArg some (congrArg (List.map ip) (ext_at (by simp [hd]) fun i h => ?_))
      rw [map_at (by omega), if_neg (by simp)]
    | cons j js ih =>
      intro d hd nd h
      obtain ⟨h1, h2, h3⟩ := h j List.mem_cons_self
      obtain ⟨n1, n2⟩ := List.nodup_cons.mp nd
      rw [List.map_cons]
      unfold Sm.forM
      show ((idx (d.map ip) (j : Int)).bind _).bind _ = _
      rw [ipA (by omega), Option.bind_some, h3, towards_y V (hc.at_ h1) vx h2, Option.bind_some, setAt_nat (by rw [List.length_map]; omega), Option.bind_some, Option.bind_some, ← List.map_set]
      rw [ih (d.set j (tw rs (at_ c j) x far)) (by rw [List.length_set]; exact hd) n2 fun k hk => ?_]
      · refine congrArg some (congrArg (List.map ip) (List.map_congr_left fun i hi => ?_))
        by_cases e : i = j
        · subst e
          rw [if_neg n1, if_pos List.mem_cons_self]
          exact getD_set_self (by rw [hd]; exact List.mem_range.mp hi)
        · by_cases m : i ∈ js
          · rw [if_pos m, if_pos (List.mem_cons_of_mem _ m)]
          · rw [if_neg m, if_neg (by simp [e, m])]
            exact getD_set_ne e
      · obtain ⟨k1, k2, k3⟩ := h k (List.mem_cons_of_mem _ hk)
        refine ⟨k1, k2, ?_⟩
        rw [← k3]
        exact getD_set_ne fun e => n1 (by rw [← e]; exact hk)
  exact key is c rfl nd fun j hj => ⟨(hi j hj).1, (hi j hj).2, rfl⟩
open Classical in
theorem lead_both_y {rs : Rds} {L : Int} (V : Vr rs L) {c : List Pt} (h0 : c ≠ []) (hl : c.length ≤ 1000) (hc : Vc rs c) {x : Pt} (vx : Vp rs x) :
    lead_both_f (mk rs) (c.map ip) (ip x) = some ((bothS rs x c).1.map ip, ((bothS rs x c).2 : Int)) := by
  refine run_eq ?_
  unfold lead_both_f
  have wE : ∀ d : List Pt, leastN ((d.map ip).map fun q => dist rs (q.1.toNat, q.2.toNat) x) = leastN (ways rs d x) := fun d => by
    unfold ways
    rw [List.map_map]; rfl
  refine Run.elim (whL_run (fun s => ∃ k, k ≤ leastN (ways rs c x) ∧ s = ((run1 rs x c k).1.map ip, ((run1 rs x c k).2 : Int))) (fun s => leastN (s.1.map fun q => dist rs (q.1.toNat, q.2.toNat) x)) (fun s => s = ((bothS rs x c).1.map ip, ((bothS rs x c).2 : Int))) (fun _ => False) ?_ _ ⟨0, Nat.zero_le _, rfl⟩) ?_ fun _ h => h.elim
  · rintro _ ⟨k, hk, rfl⟩
    have ld := run1_len (rs := rs) (x := x) (c := c) k
    have vd := run1_vc hc vx k
    have lr := least_run hc vx h0 k hk
    generalize hd : (run1 rs x c k).1 = d at ld vd lr
    have d0 : d ≠ [] := fun e => h0 (List.length_eq_zero_iff.mp (by rw [← ld, e]; rfl))
    refine ⟨_, rfl, ?_⟩
    rw [memB_ip]
    by_cases m : x ∈ d
    · right
      have := (least_zero vd vx d0).mpr m
      refine ⟨by simp [m], ?_⟩
      have ek : k = leastN (ways rs c x) := by omega
      unfold bothS
      rw [← ek, hd]
    · left
      have w1 : leastN (ways rs d x) ≠ 0 := fun z => m ((least_zero vd vx d0).mp z)
      refine ⟨by simp [m], ?_⟩
      dsimp only
      have si : ∀ i, i ∈ seersL rs x d → i < d.length ∧ Sees rs x d i := fun i hi => by
        unfold seersL at hi
        obtain ⟨h1, h2⟩ := List.mem_filter.mp hi
        exact ⟨List.mem_range.mp h1, of_decide_eq_true h2⟩
      have sm : ∀ i, i < d.length → Sees rs x d i → i ∈ seersL rs x d := fun i h1 h2 => List.mem_filter.mpr ⟨List.mem_range.mpr h1, decide_eq_true h2⟩
      have nd : (seersL rs x d).Nodup := List.nodup_range.filter _
      have sl : (seersL rs x d).length ≤ d.length := Nat.le_trans (List.length_filter_le _ _) (by simp)
      obtain ⟨i0, hi0, e1, e2⟩ := least_at (rs := rs) (x := x) d0
      have s0 := sm i0 hi0 (least_sees vd vx hi0 e1 e2)
      rw [seers_y V (by omega) vd vx, Option.bind_some, cap_ok (by rw [List.length_map]; omega), lcO_map', lcO_map (G := fun i => ip (at_ d i)) _ (fun _ _ => rfl) fun i hi => by rw [ipA (si i hi).1]; rfl, Option.bind_some]
      have ep : (seersL rs x d).map (fun i => ip (at_ d i)) = ((seersL rs x d).map fun i => at_ d i).map ip := by rw [List.map_map]; rfl
      have pat : ∀ a, a < ((seersL rs x d).map fun i => at_ d i).length → ∃ i, at_ ((seersL rs x d).map fun i => at_ d i) a = at_ d i ∧ (seersL rs x d)[a]? = some i ∧ i < d.length ∧ Sees rs x d i := fun a ha => by
        rw [List.length_map] at ha
        refine ⟨(seersL rs x d)[a], ?_, List.getElem?_eq_getElem ha, si _ (List.getElem_mem ha)⟩
        show List.getD _ a (0, 0) = _
        rw [List.getD_eq_getElem?_getD, List.getElem?_map, List.getElem?_eq_getElem ha]; rfl
      have vp : Vc rs ((seersL rs x d).map fun i => at_ d i) := fun q hq => by
        obtain ⟨i, hi, rfl⟩ := List.mem_map.mp hq
        exact vd.at_ (si i hi).1
      obtain ⟨far, ef, f1, f2, f3⟩ := next_y V (ps := (seersL rs x d).map fun i => at_ d i) (fun e => by rw [List.map_eq_nil_iff.mp e] at s0; simp at s0) (by rw [List.length_map]; omega) vp vx (fun a ha => by
          obtain ⟨i, ea, _, hi, _⟩ := pat a ha
          rw [ea]
          have := leastN_le (at_ways (rs := rs) (x := x) hi)
          omega) fun a b ha hb ab => by
          obtain ⟨i, ea, ia, hi, sa⟩ := pat a ha
          obtain ⟨j, eb, jb, hj, sb⟩ := pat b hb
          rw [ea, eb]
          refine sees_far vd vx hi hj (fun e => ab ?_) sa sb
          subst e
          rw [List.length_map] at ha hb
          rw [List.getElem?_eq_getElem ha] at ia
          rw [List.getElem?_eq_getElem hb] at jb
          exact (List.getElem_inj nd).mp ((Option.some.inj ia).trans (Option.some.inj jb).symm)
      rw [ep, ef, Option.bind_some]
      have inv : ∀ i, i < d.length → Sees rs x d i → ∃ a, a < ((seersL rs x d).map fun i => at_ d i).length ∧ at_ ((seersL rs x d).map fun i => at_ d i) a = at_ d i ∧ (seersL rs x d)[a]? = some i := fun i hi s => by
        obtain ⟨a, ha, e⟩ := List.getElem_of_mem (sm i hi s)
        refine ⟨a, by rw [List.length_map]; exact ha, ?_, by rw [List.getElem?_eq_getElem ha, e]⟩
        show List.getD _ a (0, 0) = _
        rw [List.getD_eq_getElem?_getD, List.getElem?_map, List.getElem?_eq_getElem ha, e]; rfl
      have hfar : Far rs x d far := by
        refine ⟨fun i hi s => ?_, fun i j hi hj ij s t => ?_⟩
        · obtain ⟨a, ha, ea, _⟩ := inv i hi s
          have := f2 a ha
          rwa [ea] at this
        · obtain ⟨a, ha, ea, ia⟩ := inv i hi s
          obtain ⟨b, hb, eb, jb⟩ := inv j hj t
          have := f3 a b ha hb fun e => ij (by subst e; exact Option.some.inj (ia.symm.trans jb))
          rwa [ea, eb] at this
      rw [lead_step V vd vx (far := far) (seersL rs x d) nd fun i hi => ⟨(si i hi).1, hfar.1 i (si i hi).1 (si i hi).2⟩, Option.bind_some, imul_r (by rw [List.length_map]; omega), Option.bind_some]
      have est : ((List.range d.length).map fun i => if i ∈ seersL rs x d then tw rs (at_ d i) x far else at_ d i) = Tw.stepK rs x d far := by
        unfold Tw.stepK
        refine List.map_congr_left fun i hi => ?_
        by_cases s : Sees rs x d i
        · rw [if_pos (sm i (List.mem_range.mp hi) s), if_pos s]
        · rw [if_neg (fun z => s (si i z).2), if_neg s]
      have far0 : far ≤ leastN (ways rs d x) := by rw [← e1]; exact hfar.1 i0 hi0 (si i0 s0).2
      have rf := run1_far vd vx hfar far (Nat.le_refl _)
      have ra := run1_add (rs := rs) (x := x) (c := c) k far
      rw [hd, rf] at ra
      refine ⟨_, rfl, ⟨k + far, by omega, ?_⟩, ?_⟩
      · rw [ra, est, List.length_map]
        refine Prod.ext rfl ?_
        show ((run1 rs x c k).2 : Int) + (far : Int) * _ = (((run1 rs x c k).2 + far * _ : Nat) : Int)
        rw [Int.natCast_add, Int.natCast_mul]
      · show leastN ((List.map ip _).map _) < leastN ((d.map ip).map _)
        rw [wE, wE, est]
        have lr2 := least_run vd vx d0 far far0
        rw [rf] at lr2
        have : leastN (ways rs (Tw.stepK rs x d far) x) + far = leastN (ways rs d x) := lr2
        omega
  · rintro _ rfl
    exact ⟨_, rfl, rfl⟩
theorem lead_bothY {rs : Rds} {L : Int} (V : Vr rs L) {c : List Pt} (h0 : c ≠ []) (hl : c.length ≤ 1000) (hc : Vc rs c) {x : Pt} (vx : Vp rs x) :
    lead_f (mk rs) RuleD.both (c.map ip) (ip x) = some ((bothS rs x c).1.map ip, ((bothS rs x c).2 : Int)) := by
  unfold lead_f
  rw [if_neg (by simp), lead_both_y V h0 hl hc vx]
  rfl
theorem is_point_y {rs : Rds} {L : Int} (V : Vr rs L) {p : Pt} (vp : Vp rs p) : l_is_point_f rs (ip p) = some true := by
  unfold l_is_point_f
  rw [if_neg (by simp), l_is_integer_eq, l_is_integer_eq]
  walk_at "pf"
  rw [ip_1, ip_2]
  by_cases h : p.1 = 0
  · have e := vp.zero h
    rw [if_pos (by omega)]
    have : p.2 = 0 := congrArg Prod.snd e
    rw [this]; rfl
  · have h1 := vp.1
    obtain ⟨pa, le, eix, _, e2, _⟩ := road_at V h h1
    have h2 := vp.2
    rw [if_neg (by omega), if_pos (by omega), if_pos (by omega), eix, Option.bind_some]
    exact congrArg some (decide_eq_true (by omega))
theorem are_points_y {rs : Rds} {L : Int} (V : Vr rs L) {c : List Pt} (hl : c.length ≤ 1000) (hc : ∀ q ∈ c, Vp rs q) : l_are_points_f rs (c.map ip) (c.length : Int) = some true := by
  unfold l_are_points_f
  rw [if_neg (by simp), rng_ok (by omega), Option.bind_some, Int.toNat_natCast, forL_all fun x hx => ?_]
  · rfl
  · obtain ⟨i, hi, rfl⟩ := List.mem_map.mp hx
    have hi := List.mem_range.mp hi
    rw [ipA hi, Option.bind_some, is_point_y V (getD_vp hi hc)]
    rfl
theorem ways_cast (rs : Rds) (c : List Pt) (x : Pt) : c.map (fun p => ((dist rs p x : Nat) : Int)) = (ways rs c x).map fun (n : Nat) => (n : Int) := by unfold ways; rw [List.map_map]; rfl
theorem ways_at {rs : Rds} {c : List Pt} {x : Pt} {i : Nat} (hi : i < c.length) : idx ((ways rs c x).map fun (n : Nat) => (n : Int)) (i : Int) = some (dist rs (at_ c i) x : Int) := by
  rw [castI_at (by rw [ways_len]; exact hi)]
  unfold ways
  rw [List.getD_eq_getElem?_getD, List.getElem?_map, List.getElem?_eq_getElem hi]
  show some _ = some ((dist rs (c.getD i (0, 0)) x : Nat) : Int)
  rw [List.getD_eq_getElem?_getD, List.getElem?_eq_getElem hi]; rfl
theorem goneI_at {n : Nat} {f : Nat → Nat} {i : Nat} (hi : i < n) : idx (((List.range n).map f).map fun (n : Nat) => (n : Int)) (i : Int) = some (f i : Int) := by
  rw [castI_at (by simp; exact hi), List.getD_eq_getElem?_getD, List.getElem?_map, List.getElem?_range hi]; rfl
theorem stop_cond {j i p q m : Nat} : ((if (!decide ((j : Int) = (i : Int))) = true then (some (m : Int)).bind fun x_17 => (if (decide ((p : Int) ≤ x_17)) = true then some ((decide ((p : Int) < (q : Int))) || ((decide ((p : Int) = (q : Int))) && (decide ((j : Int) < (i : Int))))) else some false).bind fun b_18 => some b_18 else some false) : Option Bool) = some (decide (j ≠ i ∧ p ≤ m ∧ (p < q ∨ (p = q ∧ j < i)))) := by
  by_cases e : j = i
  · subst e
    rw [if_neg (by simp)]
    exact congrArg some (decide_eq_false (fun h => h.1 rfl)).symm
  · rw [if_pos (by simp; omega), Option.bind_some]
    by_cases z : p ≤ m
    · rw [if_pos (by simp; omega), Option.bind_some]
      refine congrArg some (Bool.eq_iff_iff.mpr ?_)
      simp
      omega
    · rw [if_neg (by simp; omega), Option.bind_some]
      exact congrArg some (decide_eq_false (fun h => z h.2.1)).symm
theorem stop_y {rs : Rds} {L : Int} (V : Vr rs L) (hr : rs.length ≤ 1000) {c : List Pt} (h0 : c ≠ []) (hl : c.length ≤ 1000) (hc : Vc rs c) {x : Pt} (vx : Vp rs x) {i : Nat} (hi : i < c.length) :
    l_stop_f rs (c.map ip) (ip x) (((List.range c.length).map fun j => mv rs x c (leastN (ways rs c x)) j).map fun (n : Nat) => (n : Int)) (i : Int) = some ((mv rs x c (leastN (ways rs c x)) i : Nat) : Int) := by
  have w0 : ways rs c x ≠ [] := fun e => h0 (List.map_eq_nil_iff.mp e)
  have vi := hc.at_ hi
  unfold l_stop_f
  rw [cap_ok (by rw [List.length_map]; omega), lcO_map', lcO_map (G := fun p => ((dist rs p x : Nat) : Int)) c (fun _ _ => rfl) fun p hp => by rw [far_f V hr (hc p hp) vx]; rfl, Option.bind_some, ways_cast, minL_cast w0, Option.bind_some, List.length_map, rng_ok (by omega), Option.bind_some, Int.toNat_natCast]
  refine bind_on (fun s => s = ((mv rs x c (leastN (ways rs c x)) i : Nat) : Int)) (Run.mono (forM_rng (n := c.length) (fun k s => ∃ f : Nat, s = (f : Int) ∧ mv rs x c (leastN (ways rs c x)) i ≤ f ∧ f ≤ leastN (ways rs c x) ∧ ∀ j, j < k → j ≠ i → own rs x c j i ≤ mv rs x c (leastN (ways rs c x)) j → Ahead rs x c i j → f ≤ own rs x c j i) ⟨_, rfl, mv_le _ _, Nat.le_refl _, fun j h => absurd h (Nat.not_lt_zero _)⟩ ?_) ?_) fun t ht => by rw [ht]
  · rintro j s hj ⟨f, rfl, g1, g2, g3⟩
    have vj := hc.at_ hj
    have o1 := own_two hc vx hi hj
    have o2 := own_two hc vx hj hi
    rw [dist_comm rs (at_ c j) (at_ c i)] at o2
    have l1 := own_le (rs := rs) (x := x) (c := c) (i := i) (j := j)
    have l2 := own_le (rs := rs) (x := x) (c := c) (i := j) (j := i)
    simp only [ipA hi, ipA hj, far_f V hr vi vj, ways_at hi, ways_at hj, Option.bind_some]
    rw [idiv_pos (by decide) (by decide), Option.bind_some, idiv_pos (by decide) (by decide), Option.bind_some, goneI_at hj]
    rw [show (((dist rs (at_ c i) x : Nat) : Int) + (dist rs (at_ c i) (at_ c j) : Int) - (dist rs (at_ c j) x : Int)) / 2 = (own rs x c i j : Int) by omega, show (((dist rs (at_ c j) x : Nat) : Int) + (dist rs (at_ c i) (at_ c j) : Int) - (dist rs (at_ c i) x : Int)) / 2 = (own rs x c j i : Int) by omega]
    rw [stop_cond, Option.bind_some]
    by_cases h : j ≠ i ∧ own rs x c j i ≤ mv rs x c (leastN (ways rs c x)) j ∧ (own rs x c j i < own rs x c i j ∨ (own rs x c j i = own rs x c i j ∧ j < i))
    · rw [decide_eq_true h, if_pos rfl]
      have sl := stop_le hc vx h0 hi hj h.2.1 h.2.2
      refine ⟨_, rfl, min (own rs x c j i) f, ?_, by omega, by omega, fun k hk k1 k2 k3 => ?_⟩
      · split <;> omega
      · by_cases e : k = j
        · subst e; omega
        · have := g3 k (by omega) k1 k2 k3
          omega
    · rw [decide_eq_false h, if_neg (by decide)]
      refine ⟨_, rfl, f, rfl, g1, g2, fun k hk k1 k2 k3 => ?_⟩
      by_cases e : k = j
      · subst e; exact absurd ⟨k1, k2, k3⟩ h
      · exact g3 k (by omega) k1 k2 k3
  · rintro s ⟨f, rfl, g1, g2, g3⟩
    rcases stop_ge hc vx h0 hi with e | ⟨j, hj, k1, k2, k3, k4⟩
    · omega
    · have := g3 j hj k1 k2 k3
      omega
def ruleOf (k : Bool) : RuleD := if k = true then RuleD.near else RuleD.both
theorem lead_R {rs : Rds} {L : Int} (V : Vr rs L) {c : List Pt} (h0 : c ≠ []) (hl : c.length ≤ 1000) (hc : Vc rs c) {x : Pt} (vx : Vp rs x) (k : Bool) :
    lead_f (mk rs) (ruleOf k) (c.map ip) (ip x) = some ((stepR k rs c x).1.map ip, ((stepR k rs c x).2 : Int)) := by
  cases k with
  | true => exact lead_near V h0 hl hc vx
  | false => exact lead_bothY V h0 hl hc vx
theorem is_pair_y {rs : Rds} {L : Int} (V : Vr rs L) {c : List Pt} (hl : c.length ≤ 1000) (hc : ∀ q ∈ c, Vp rs q) (n : Int) : l_is_pair_f rs (c.map ip, n) (c.length : Int) = some true := by
  unfold l_is_pair_f
  dsimp only
  rw [if_neg (by decide), are_points_y V hl hc, Option.bind_some, if_pos rfl, l_is_integer_eq]
  rfl
theorem run_y {rs : Rds} {L : Int} (V : Vr rs L) (k : Bool) {w c : List Pt} (h0 : c ≠ []) (hl : c.length ≤ 1000) (hc : Vc rs c) (hw : ∀ x ∈ w, Vp rs x) :
    run_f (mk rs) (ruleOf k) (c.map ip) (w.map ip) = some ((runS k rs c w).1.map ip, ((runS k rs c w).2 : Int)) := by
  have key : ∀ (w c : List Pt) (t : Int), c ≠ [] → c.length ≤ 1000 → Vc rs c → (∀ x ∈ w, Vp rs x) → forM (fun (s_1 : (List (Int × Int) × Int)) (call_2 : (Int × Int)) => (lead_f (mk rs) (ruleOf k) s_1.1 call_2).bind fun y_3 => some (y_3.1, (s_1.2 + y_3.2))) (w.map ip) (c.map ip, t) = some ((runS k rs c w).1.map ip, t + ((runS k rs c w).2 : Int)) := by
    intro w
    induction w with
    | nil => intro c t _ _ _ _; simp [runS, Sm.forM]
    | cons x w ih =>
      intro c t h0 hl hc hw
      rw [List.map_cons]
      unfold Sm.forM
      dsimp only
      rw [lead_R V h0 hl hc (hw x List.mem_cons_self) k, Option.bind_some, Option.bind_some]
      dsimp only
      have e := stepR_len (k := k) (rs := rs) (c := c) (x := x)
      rw [ih _ _ (fun z => h0 (List.length_eq_zero_iff.mp (by rw [← e, z]; rfl))) (by rw [e]; exact hl) (stepR_vc hc (hw x List.mem_cons_self)) fun y hy => hw y (List.mem_cons_of_mem _ hy)]
      rw [runS]
      simp
      omega
  unfold run_f
  rw [key w c 0 h0 hl hc hw]
  simp
theorem led_gen {rs : Rds} {L : Int} (V : Vr rs L) (hr : rs.length ≤ 1000) {c d : List Pt} (hl : c.length ≤ 1000) (hc : Vc rs c) (hd : Vc rs d) (e : d.length = c.length) {x : Pt} (vx : Vp rs x) (h0 : c ≠ []) (k : Int) (n : Nat) (g : Nat → Nat)
    (h1 : ∀ i, i < c.length → g i + dist rs (at_ d i) x = dist rs (at_ c i) x ∧ dist rs (at_ c i) (at_ d i) = g i) (h2 : n = ((List.range c.length).map g).sum)
    (hk : ∀ i, i < c.length → if k = 0 then l_stop_f rs (c.map ip) (ip x) (((List.range c.length).map g).map fun (n : Nat) => (n : Int)) (i : Int) = some (g i : Int) else g i = if i = nearI rs c x then dist rs (at_ c i) x else 0) : l_led_f rs k (c.map ip) (ip x) (d.map ip, (n : Int)) = some true := by
  have ap := is_pair_y V (c := d) (by omega) hd (n : Int)
  rw [e] at ap
  have w0 : ways rs c x ≠ [] := fun e => h0 (List.map_eq_nil_iff.mp e)
  unfold l_led_f
  dsimp only
  rw [List.length_map, ap, Option.bind_some, if_neg (by decide)]
  rw [cap_ok (by rw [List.length_map]; omega), lcO_map', lcO_map (G := fun p => ((dist rs p x : Nat) : Int)) c (fun _ _ => rfl) fun p hp => by rw [far_f V hr (hc p hp) vx]; rfl, Option.bind_some, ways_cast]
  rw [rng_ok (by omega), Option.bind_some, Int.toNat_natCast, cap_ok (by simp; omega)]
  rw [lcO_rngA (fun i => (g i : Int)) (fun _ _ => rfl) fun i hi => by
    rw [ipA hi, Option.bind_some, ipA (by omega), Option.bind_some, far_f V hr (hc.at_ hi) (hd.at_ (by omega)), (h1 i hi).2]; rfl]
  rw [Option.bind_some]
  have eg : (List.range c.length).map (fun i => (g i : Int)) = ((List.range c.length).map g).map fun (n : Nat) => (n : Int) := by rw [List.map_map]; rfl
  rw [eg, if_neg (by rw [sum_castN, ← h2]; simp), Option.bind_some, forL_all fun y hy => ?_]
  · rfl
  · obtain ⟨i, hi, rfl⟩ := List.mem_map.mp hy
    have hi := List.mem_range.mp hi
    obtain ⟨g1, g2⟩ := h1 i hi
    have hk := hk i hi
    refine bind_on (fun z => z = (g i : Int)) ?_ fun z hz => ?_
    · by_cases hz : k = 0
      · rw [if_pos hz] at hk
        rw [if_pos (decide_eq_true hz), hk]
        exact ⟨_, rfl, rfl⟩
      · rw [if_neg hz] at hk
        rw [if_neg (by simp [hz]), minL_cast w0, Option.bind_some, indexOf_cast (leastN_mem w0), Option.bind_some]
        by_cases q : i = nearI rs c x
        · rw [if_pos q] at hk
          rw [if_pos (decide_eq_true (by rw [q]; rfl)), ways_at hi, hk]
          exact ⟨_, rfl, rfl⟩
        · rw [if_neg q] at hk
          rw [if_neg (fun z => q (by unfold nearI; have := of_decide_eq_true z; omega)), hk]
          exact ⟨_, rfl, rfl⟩
    · subst hz
      simp only [goneI_at hi, ipA hi, ipA (show i < d.length by omega), far_f V hr (hc.at_ hi) vx, far_f V hr (hd.at_ (show i < d.length by omega)) vx, ways_at hi, Option.bind_some]
      rw [if_neg (by simp), Option.bind_some, show (!decide ((g i : Int) + (dist rs (at_ d i) x : Int) = (dist rs (at_ c i) x : Int))) = false from by rw [decide_eq_true (by omega)]; rfl, if_neg (by decide)]
theorem led_both {rs : Rds} {L : Int} (V : Vr rs L) (hr : rs.length ≤ 1000) {c : List Pt} (h0 : c ≠ []) (hl : c.length ≤ 1000) (hc : Vc rs c) {x : Pt} (vx : Vp rs x) : l_led_f rs 0 (c.map ip) (ip x) ((bothS rs x c).1.map ip, ((bothS rs x c).2 : Int)) = some true := by
  refine led_gen V hr hl hc (bothS_vc hc vx) bothS_len vx h0 0 _ (fun i => mv rs x c (leastN (ways rs c x)) i) (fun i hi => ?_) ?_ fun i hi => ?_
  · obtain ⟨d1, d2⟩ := mv_dist hc vx hi (Nat.le_refl _)
    have al := at_least (rs := rs) (x := x) hi
    have ml := mv_le (rs := rs) (x := x) (c := c) (leastN (ways rs c x)) i
    exact ⟨by unfold bothS; omega, d2⟩
  · exact mv_sum _
  · rw [if_pos rfl]
    exact stop_y V hr h0 hl hc vx hi
theorem led_near {rs : Rds} {L : Int} (V : Vr rs L) (hr : rs.length ≤ 1000) {c : List Pt} (h0 : c ≠ []) (hl : c.length ≤ 1000) (hc : Vc rs c) {x : Pt} (vx : Vp rs x) : l_led_f rs 1 (c.map ip) (ip x) ((nearS rs c x).1.map ip, ((nearS rs c x).2 : Int)) = some true := by
  have w0 : ways rs c x ≠ [] := fun e => h0 (List.map_eq_nil_iff.mp e)
  have nl := nearI_lt (rs := rs) (call := x) h0
  have nw : dist rs (at_ c (nearI rs c x)) x = leastN (ways rs c x) := by
    have := List.getElem_idxOf (List.idxOf_lt_length_of_mem (leastN_mem w0))
    rw [← this]
    unfold ways nearI ways at_
    rw [List.getElem_map, List.getD_eq_getElem?_getD, List.getElem?_eq_getElem (by exact nl)]
    rfl
  refine led_gen V hr hl hc (nearS_vp hc vx) (nearS_len _ _ _) vx h0 1 _ (fun i => if i = nearI rs c x then dist rs (at_ c i) x else 0) (fun i hi => ?_) ?_ fun i hi => ?_
  · by_cases q : i = nearI rs c x
    · rw [if_pos q]
      have : at_ (nearS rs c x).1 i = x := by rw [q]; exact getD_set_self nl
      rw [this, dist_self]
      exact ⟨rfl, rfl⟩
    · rw [if_neg q]
      have : at_ (nearS rs c x).1 i = at_ c i := getD_set_ne q
      rw [this, dist_self]
      exact ⟨Nat.zero_add _, rfl⟩
  · rw [sum_one nl, nw]; rfl
  · rw [if_neg (by decide)]
end Lm
namespace Lm
open Lw Sm PySem Tw
local macro_rules | `(tactic| walk_at "pf") => `(tactic| simp only [Option.bind_some, Option.bind_none, decide_eq_true_eq, Bool.and_eq_true, Bool.or_eq_true, Bool.not_eq_true', decide_eq_false_iff_not, Bool.false_eq_true, Bool.true_eq_false, if_true, if_false, ite_true, ite_false, idx0, setAt0, elim_nx, elim_rt, elim_bk, Bool.not_true, Bool.not_false, Bool.and_true, Bool.true_and, Bool.and_false, Bool.false_and, Bool.or_true, Bool.true_or, Bool.or_false, Bool.false_or, bind_id, ipow_18', List.nil_append, ge_iff_le, gt_iff_lt])
theorem led_R {rs : Rds} {L : Int} (V : Vr rs L) (hr : rs.length ≤ 1000) {c : List Pt} (h0 : c ≠ []) (hl : c.length ≤ 1000) (hc : Vc rs c) {x : Pt} (vx : Vp rs x) (K : Nat) (hK : K < 2) : l_led_f rs (K : Int) (c.map ip) (ip x) ((stepR (K == 1) rs c x).1.map ip, ((stepR (K == 1) rs c x).2 : Int)) = some true := by
  match K with
  | 0 => exact led_both V hr h0 hl hc vx
  | 1 => exact led_near V hr h0 hl hc vx
  | k + 2 => omega
theorem law_f_true (ns : List Int) : law_f ns = some true := by
  unfold law_f
  obtain ⟨n, e0⟩ := source_ok ns
  obtain ⟨K, n1, e1, hK⟩ := pick_ok n 2 (by decide) (by decide)
  obtain ⟨m0, n2, e2, hm0⟩ := pick_ok n1 13 (by decide) (by decide)
  obtain ⟨p, n3, e3, hp⟩ := pick_ok n2 8 (by decide) (by decide)
  simp only [e0, e1, e2, e3, Option.bind_some]
  refine bind_on (fun z => ∃ m : Nat, z = ([n3], (m : Int)) ∧ m ≤ 40) ?_ ?_
  · by_cases q : (p : Int) = 7
    · rw [if_pos (decide_eq_true q)]; exact ⟨_, rfl, 40, rfl, by omega⟩
    · rw [if_neg (by simpa using q)]; exact ⟨_, rfl, m0, rfl, by omega⟩
  · rintro _ ⟨m, rfl, hm⟩
    dsimp only
    obtain ⟨cut, n4, e4, hcut⟩ := pick_ok n3 ((m : Int) + 1) (by omega) (by omega)
    obtain ⟨rs, n5, L, e5, V, hL, hL2, _, hl⟩ := roads_ok n4 0 (by decide)
    rw [show ((0 : Nat) : Int) = 0 from rfl] at e5
    obtain ⟨a, n6, e6, ha⟩ := pick_ok n5 4 (by decide) (by decide)
    obtain ⟨c, n7, e7, hc, vc⟩ := helpers_ok n6 V (by omega) (by omega) (1 + a) (by omega)
    have e7' : l_helpers_f [n6] rs (1 + (a : Int)) = some (c.map ip, [n7]) := by rw [← e7]; congr 1
    have c0 : c ≠ [] := fun e => by rw [e] at hc; simp at hc; omega
    obtain ⟨w, n8, e8, hw, vw⟩ := calls_ok n7 V (by omega) (by omega) c0 (by omega) vc m (by omega)
    simp only [e4, e5, e6, e7', e8, Option.bind_some, init_f V (show rs.length ≤ 1000 by omega)]
    refine bind_on (fun z => z = ruleOf (K == 1)) ?_ ?_
    · by_cases q : (K : Int) = 1
      · rw [if_pos (decide_eq_true q)]
        exact ⟨_, rfl, by rw [show K = 1 by omega]; rfl⟩
      · rw [if_neg (by simpa using q)]
        exact ⟨_, rfl, by rw [show K = 0 by omega]; rfl⟩
    · rintro _ rfl
      refine elim_on (fun s => s = ((runS (K == 1) rs c w).1.map ip, ((runS (K == 1) rs c w).2 : Int))) ((forL_on (fun j s => s = ((runS (K == 1) rs c (w.take j)).1.map ip, ((runS (K == 1) rs c (w.take j)).2 : Int))) rfl ?_).imp fun t h => ⟨h.1, ?_⟩) ?_
      · intro j x s hx hs
        subst hs
        rw [List.getElem?_map] at hx
        obtain ⟨y, hy, rfl⟩ := Option.map_eq_some_iff.mp hx
        have vy := vw y (List.mem_of_getElem? hy)
        have vt : ∀ x ∈ w.take j, Vp rs x := fun x hx => vw x (List.mem_of_mem_take hx)
        have vd := runS_vc (k := (K == 1)) (w.take j) c vc vt
        have ld := runS_len (k := (K == 1)) (rs := rs) (w.take j) c
        have d0 : (runS (K == 1) rs c (w.take j)).1 ≠ [] := fun e => c0 (List.length_eq_zero_iff.mp (by rw [← ld, e]; rfl))
        have tk : w.take (j + 1) = w.take j ++ [y] := by
          rw [List.take_add_one, hy]; rfl
        refine ⟨_, ?_, rfl⟩
        dsimp only
        rw [lead_R V d0 (by omega) vd vy, Option.bind_some, led_R V (by omega) d0 (by omega) vd vy K (by omega), Option.bind_some, if_neg (by decide)]
        dsimp only
        rw [cap_ok (by rw [List.length_map, stepR_len]; omega), lcO_map (G := fun (p : Int × Int) => p) _ (fun _ _ => rfl) (fun _ _ => rfl), List.map_id', Option.bind_some, tk, runS_app]
        simp [runS]
      · have := h.2
        rwa [List.length_map, List.take_length] at this
      · rintro _ rfl
        dsimp only
        have vr := runS_vc (k := (K == 1)) w c vc vw
        have lr := runS_len (k := (K == 1)) (rs := rs) w c
        have v1 : ∀ x ∈ w.take cut, Vp rs x := fun x hx => vw x (List.mem_of_mem_take hx)
        have v2 : ∀ x ∈ w.drop cut, Vp rs x := fun x hx => vw x (List.mem_of_mem_drop hx)
        have vr1 := runS_vc (k := (K == 1)) (w.take cut) c vc v1
        have lr1 := runS_len (k := (K == 1)) (rs := rs) (w.take cut) c
        have d0 : (runS (K == 1) rs c (w.take cut)).1 ≠ [] := fun e => c0 (List.length_eq_zero_iff.mp (by rw [← lr1, e]; rfl))
        have vr2 := runS_vc (k := (K == 1)) (w.drop cut) _ vr1 v2
        have lr2 := runS_len (k := (K == 1)) (rs := rs) (w.drop cut) (runS (K == 1) rs c (w.take cut)).1
        have app := runS_app (k := (K == 1)) (rs := rs) (w.take cut) (w.drop cut) c
        rw [List.take_append_drop] at app
        have p0 := is_pair_y V (by omega) vr ((runS (K == 1) rs c w).2 : Int)
        have p1 := is_pair_y V (by omega) vr1 ((runS (K == 1) rs c (w.take cut)).2 : Int)
        have p2 := is_pair_y V (by omega) vr2 ((runS (K == 1) rs (runS (K == 1) rs c (w.take cut)).1 (w.drop cut)).2 : Int)
        rw [lr] at p0
        rw [lr1] at p1
        rw [lr2, lr1] at p2
        rw [List.length_map, run_y V _ c0 (by omega) vc vw, Option.bind_some, p0, Option.bind_some, if_neg (by decide), Option.bind_some, if_neg (by simp), slcB_nat, Option.bind_some, ← List.map_take, run_y V _ c0 (by omega) vc v1, Option.bind_some, p1, Option.bind_some, if_neg (by decide), slcA_nat, Option.bind_some, ← List.map_drop, run_y V _ d0 (by omega) vr1 v2, Option.bind_some, p2, Option.bind_some, if_neg (by decide)]
        rw [app]
        simp
theorem law_true (ns : List Int) (hn : ns.length ≤ 63) : ∃ s', Sm.bodyF (ps := law_ps) (ls := law_ls) law_m ((some ns, ()) : Option (List Int) × Unit) = some (true, s') := by
  obtain ⟨s', h, _⟩ := law_sim ns true (law_f_true ns)
  exact ⟨s', h⟩
end Lm
open PySem PySem.W PyProof.Rows
set_option maxRecDepth 100000 in
set_option maxHeartbeats 0 in
theorem PySem.Challenge.cw_bothcome_k28_whole_long_runs_holds : PySem.Challenge.rw_bothcome_k28_whole_long_runs.Holds := by
  w_on; o_law; k_head; (case hw => w_witness2)
  k_fill
  refine Sm.law_walk (l := PySem.Challenge.rw_bothcome_k28_whole_long_runs) (k := 13) (f := Sm.bodyF (ps := Lw.law_ps) (ls := Lw.law_ls) Lw.law_m) rfl rfl ⟨rfl, by decide, by decide⟩ (fun w h Y => PySem.W.kIn_of Y) ?F Lm.law_true
  case F =>
    intro w mg fa h KX G hmg
    refine' Lw.all_mk KX G hmg ?a0 ?l0 ?c0 ?k0 ?a1 ?l1 ?c1 ?k1 ?a2 ?l2 ?c2 ?k2 ?a3 ?l3 ?c3 ?k3 ?a4 ?l4 ?c4 ?k4 ?a5 ?l5 ?c5 ?k5 ?a6 ?l6 ?c6 ?k6 ?a7 ?l7 ?c7 ?k7 ?a8 ?l8 ?c8 ?k8 ?a9 ?l9 ?c9 ?k9 ?a10 ?l10 ?c10 ?k10 ?a11 ?l11 ?c11 ?k11 ?a12 ?l12 ?c12 ?k12 ?a13 ?l13 ?c13 ?k13 ?a14 ?l14 ?c14 ?k14 ?a15 ?l15 ?c15 ?k15 ?a16 ?l16 ?c16 ?k16 ?a17 ?l17 ?c17 ?k17 ?a18 ?l18 ?c18 ?k18 ?a19 ?l19 ?c19 ?k19 ?a20 ?l20 ?c20 ?k20 ?a21 ?l21 ?c21 ?k21 ?a22 ?l22 ?c22 ?k22 ?a23 ?l23 ?c23 ?k23 ?a24 ?l24 ?c24 ?k24 ?i24 ?a25 ?l25 ?c25 ?k25 ?i25 ?a26 ?l26 ?c26 ?k26 ?i26 ?a27 ?l27 ?c27 ?k27 ?i27 ?a28 ?l28 ?c28 ?k28 ?i28 ?a29 ?l29 ?c29 ?k29 ?i29 ?a30 ?l30 ?c30 ?k30 ?i30 ?a31 ?l31 ?c31 ?k31 ?i31 ?aC ?pg ?hd ?po ?sa ?mk ?kc ?nP ?nL ?nH ?aR1 ?mkR1 ?inR1 ?kpR1 ?pgR1 ?hdR1 ?poR1 ?saR1 ?haR1 ?hmR1 ?aR2 ?mkR2 ?inR2 ?kpR2 ?pgR2 ?hdR2 ?poR2 ?saR2 ?haR2 ?hmR2 ?suR2 ?tyR2 ?csR2 ?neR2 ?hnR ?htR ?z0 ?z1 ?z2 ?z3 ?z4 ?z5 ?z6 ?z7 ?z8 ?z9 ?z10
    (case aC => k_is)
    (case a0 => k_is)
    (case a1 => k_is)
    (case a2 => k_is)
    (case a3 => k_is)
    (case a4 => k_is)
    (case a5 => k_is)
    (case a6 => k_is)
    (case a7 => k_is)
    (case a8 => k_is)
    (case a9 => k_is)
    (case a10 => k_is)
    (case a11 => k_is)
    (case a12 => k_is)
    (case a13 => k_is)
    (case a14 => k_is)
    (case a15 => k_is)
    (case a16 => k_is)
    (case a17 => k_is)
    (case a18 => k_is)
    (case a19 => k_is)
    (case a20 => k_is)
    (case a21 => k_is)
    (case a22 => k_is)
    (case a23 => k_is)
    (case a24 => k_is)
    (case a25 => k_is)
    (case a26 => k_is)
    (case a27 => k_is)
    (case a28 => k_is)
    (case a29 => k_is)
    (case a30 => k_is)
    (case a31 => k_is)
    (case aR1 => k_is)
    (case aR2 => k_is)
    (case l0 => k_is)
    (case c0 => k_is)
    (case k0 => k_is)
    (case l1 => k_is)
    (case c1 => k_is)
    (case k1 => k_is)
    (case l2 => k_is)
    (case c2 => k_is)
    (case k2 => k_is)
    (case l3 => k_is)
    (case c3 => k_is)
    (case k3 => k_is)
    (case l4 => k_is)
    (case c4 => k_is)
    (case k4 => k_is)
    (case l5 => k_is)
    (case c5 => k_is)
    (case k5 => k_is)
    (case l6 => k_is)
    (case c6 => k_is)
    (case k6 => k_is)
    (case l7 => k_is)
    (case c7 => k_is)
    (case k7 => k_is)
    (case l8 => k_is)
    (case c8 => k_is)
    (case k8 => k_is)
    (case l9 => k_is)
    (case c9 => k_is)
    (case k9 => k_is)
    (case l10 => k_is)
    (case c10 => k_is)
    (case k10 => k_is)
    (case l11 => k_is)
    (case c11 => k_is)
    (case k11 => k_is)
    (case l12 => k_is)
    (case c12 => k_is)
    (case k12 => k_is)
    (case l13 => k_is)
    (case c13 => k_is)
    (case k13 => k_is)
    (case l14 => k_is)
    (case c14 => k_is)
    (case k14 => k_is)
    (case l15 => k_is)
    (case c15 => k_is)
    (case k15 => k_is)
    (case l16 => k_is)
    (case c16 => k_is)
    (case k16 => k_is)
    (case l17 => k_is)
    (case c17 => k_is)
    (case k17 => k_is)
    (case l18 => k_is)
    (case c18 => k_is)
    (case k18 => k_is)
    (case l19 => k_is)
    (case c19 => k_is)
    (case k19 => k_is)
    (case l20 => k_is)
    (case c20 => k_is)
    (case k20 => k_is)
    (case l21 => k_is)
    (case c21 => k_is)
    (case k21 => k_is)
    (case l22 => k_is)
    (case c22 => k_is)
    (case k22 => k_is)
    (case l23 => k_is)
    (case c23 => k_is)
    (case k23 => k_is)
    (case l24 => k_is)
    (case c24 => k_is)
    (case k24 => k_is)
    (case i24 => k_is)
    (case l25 => k_is)
    (case c25 => k_is)
    (case k25 => k_is)
    (case i25 => k_is)
    (case l26 => k_is)
    (case c26 => k_is)
    (case k26 => k_is)
    (case i26 => k_is)
    (case l27 => k_is)
    (case c27 => k_is)
    (case k27 => k_is)
    (case i27 => k_is)
    (case l28 => k_is)
    (case c28 => k_is)
    (case k28 => k_is)
    (case i28 => k_is)
    (case l29 => k_is)
    (case c29 => k_is)
    (case k29 => k_is)
    (case i29 => k_is)
    (case l30 => k_is)
    (case c30 => k_is)
    (case k30 => k_is)
    (case i30 => k_is)
    (case l31 => k_is)
    (case c31 => k_is)
    (case k31 => k_is)
    (case i31 => k_is)
    (case pg => k_is)
    (case hd => k_is)
    (case po => k_is)
    (case sa => k_is)
    (case mk => k_is)
    (case kc => k_is)
    (case nP => k_is)
    (case nL => k_is)
    (case nH => k_is)
    (case mkR1 => k_is)
    (case inR1 => k_is)
    (case kpR1 => k_is)
    (case pgR1 => k_is)
    (case hdR1 => k_is)
    (case poR1 => k_is)
    (case saR1 => k_is)
    (case haR1 => k_is)
    (case hmR1 => k_is)
    (case mkR2 => k_is)
    (case inR2 => k_is)
    (case kpR2 => k_is)
    (case pgR2 => k_is)
    (case hdR2 => k_is)
    (case poR2 => k_is)
    (case saR2 => k_is)
    (case haR2 => k_is)
    (case hmR2 => k_is)
    (case suR2 => k_is)
    (case tyR2 => k_is)
    (case csR2 => k_is)
    (case neR2 => rfl)
    (case hnR => k_is)
    (case htR => k_is)
    (case z0 => k_is)
    (case z1 => k_is)
    (case z2 => k_is)
    (case z3 => k_is)
    (case z4 => k_is)
    (case z5 => k_is)
    (case z6 => k_is)
    (case z7 => k_is)
    (case z8 => k_is)
    (case z9 => k_is)
    (case z10 => k_is)
