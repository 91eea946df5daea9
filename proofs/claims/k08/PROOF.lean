import PyProof.Rows.All
import Wide.All
import OpenK.AllK
import Wide.FinOn
import HandS.ForMost
import HandS.ForExc
import HandS.Deep
import HandS.IsInst
import HandS.Style
import HandS.Property
import HandS.RevRange
import HandS.Conv
import HandS.Flt
import KE.KDictZip
import HandS.SortOrd
import HandS.SortRule
import HandS.SortInts
import HandS.NoneIn
import HandS.TupAny
import KE.KDictKeyed
import KE.KDictWalk
import KE.KDictCopyH
import KE.KDictDisplayH
import HandS.Iter
import HandS.TupLen
import KE.DataMinMax
import HandS.Wide
import HandS.ExcOwn
import HandS.TryOnly
import HandS.WordsExc
import PyProof.ExcBaseAll.ValueError
import KE.RegKTryMore
import HandS.FStr
import HandS.Text
import HandS.OwnIter
import HandS.IterVal
import HandS.TryMany
import HandS.ExcIs
import HandS.Defaults
import HandS.CallSlots
import HandS.ExcValue
import HandS.More
import KE.KIntText
import PySem.Challenge.RW_bothcome_k08_whole_ways_in_hung_trees
set_option Elab.async false
set_option linter.all false
set_option maxRecDepth 100000
set_option maxHeartbeats 4000000
namespace Sm
open PySem PySem.Spec L2
section
variable {X : Cx}
/-- (boxes: what looks through a type stops here) -/
structure wE (X : Cx) (e : Expr) (σ : St) (H : Hp) (Q : VK) : Prop where
  run : ∀ pins s, Inv X pins σ H s → wpAny (model X.prog X.w) X.A (eval e X.env) (EP X pins σ Q) X.xe s
structure wT (X : Cx) (e : Expr) (σ : St) (H : Hp) (Q : Bool → Hp → Prop) : Prop where
  run : ∀ pins s, Inv X pins σ H s → wpAny (model X.prog X.w) X.A (isTrue e X.env (eval e X.env)) (TP X pins σ Q) X.xe s
structure wW (X : Cx) (e : Expr) (σ : St) (H : Hp) (Q : Bool → Hp → Prop) : Prop where
  run : ∀ whole pins s, Inv X pins σ H s → wpAny (model X.prog X.w) X.A (isTrue e X.env whole) (TP X pins σ Q) X.xe s
structure wA (X : Cx) (es : List Expr) (σ : St) (H : Hp) (Q : List V → Hp → Prop) : Prop where
  run : ∀ pos pins s, Inv X pins σ H s → wpAny (model X.prog X.w) X.A (spliced (backTo pos (starEach es X.env))) (AP X pins σ Q) X.xe s
structure wS (X : Cx) (st : Stmt) (D : Ends) (σ : St) (H : Hp) : Prop where
  run : ∀ pins s, Inv X pins σ H s → wpAny (model X.prog X.w) X.A (exec st X.env) (SP X pins D) X.xe s
structure wSs (X : Cx) (st : List Stmt) (D : Ends) (σ : St) (H : Hp) : Prop where
  run : ∀ pins s, Inv X pins σ H s → wpAny (model X.prog X.w) X.A (execs st X.env) (SP X pins D) X.xe s
theorem pe_w {e : Expr} : PE X e (wE X e) := ⟨fun pins s _ _ _ I h => h.run pins s I⟩
theorem pt_w {e : Expr} : PT X e (wT X e) := ⟨fun pins s _ _ _ I h => h.run pins s I⟩
theorem pw_w {e : Expr} : PW X e (wW X e) := ⟨fun whole pins s _ _ _ I h => h.run whole pins s I⟩
theorem pa_w {es : List Expr} : PA X es (wA X es) := ⟨fun pos pins s _ _ _ I h => h.run pos pins s I⟩
theorem ps_w {st : Stmt} : PS X st (wS X st) := ⟨fun pins s _ _ _ I h => h.run pins s I⟩
theorem pss_w {st : List Stmt} : PSs X st (wSs X st) := ⟨fun pins s _ _ _ I h => h.run pins s I⟩
theorem wE_of {e : Expr} {t : TE} {σ : St} {H : Hp} {Q : VK} (h : PE X e t) (q : t σ H Q) : wE X e σ H Q := ⟨fun pins s I => h.run pins s σ H Q I q⟩
theorem wT_of {e : Expr} {t : TT} {σ : St} {H : Hp} {Q : Bool → Hp → Prop} (h : PT X e t) (q : t σ H Q) : wT X e σ H Q := ⟨fun pins s I => h.run pins s σ H Q I q⟩
theorem wW_of {e : Expr} {t : TT} {σ : St} {H : Hp} {Q : Bool → Hp → Prop} (h : PW X e t) (q : t σ H Q) : wW X e σ H Q := ⟨fun whole pins s I => h.run whole pins s σ H Q I q⟩
theorem wT_of_W {e : Expr} {σ : St} {H : Hp} {Q : Bool → Hp → Prop} (h : wW X e σ H Q) : wT X e σ H Q := ⟨fun pins s I => h.run _ pins s I⟩
theorem wA_of {es : List Expr} {t : TA} {σ : St} {H : Hp} {Q : List V → Hp → Prop} (h : PA X es t) (q : t σ H Q) : wA X es σ H Q := ⟨fun pos pins s I => h.run pos pins s σ H Q I q⟩
theorem wS_of {st : Stmt} {t : TS} {σ : St} {H : Hp} {D : Ends} (h : PS X st t) (q : t D σ H) : wS X st D σ H := ⟨fun pins s I => h.run pins s σ H D I q⟩
theorem wSs_of {st : List Stmt} {t : TS} {σ : St} {H : Hp} {D : Ends} (h : PSs X st t) (q : t D σ H) : wSs X st D σ H := ⟨fun pins s I => h.run pins s σ H D I q⟩
theorem wE_mono {e : Expr} {σ : St} {H : Hp} {Q Q' : VK} (h : wE X e σ H Q) (k : ∀ v H', Q v H' → Q' v H') : wE X e σ H Q' :=
  ⟨fun pins s I => thn (h.run pins s I) fun _ _ ⟨v, H', I', r, q⟩ => ⟨v, H', I', r, k v H' q⟩⟩
end
def notStar : Expr → Bool
  | .Starred _ _ => false
  | _ => true
theorem star_cons {e : Expr} {es : List Expr} {env : PySem.Env} (h : notStar e = true) : starEach (e :: es) env = (false, eval e env) :: starEach es env := by
  cases e with
  | Starred _ _ => cases h
  | _ => rfl
theorem star1 {a : Expr} {env : PySem.Env} (h : notStar a = true) : starEach [a] env = [(false, eval a env)] := by rw [star_cons h]; rfl
theorem star2 {a b : Expr} {env : PySem.Env} (h : notStar a = true) (h2 : notStar b = true) : starEach [a, b] env = [(false, eval a env), (false, eval b env)] := by rw [star_cons h, star1 h2]
def Ex (H H' : Hp) : Prop := ∀ a o, H a = some o → H' a = some o
theorem Ex.refl (H : Hp) : Ex H H := fun _ _ h => h
theorem Ex.trans {H H1 H2 : Hp} (a : Ex H H1) (b : Ex H1 H2) : Ex H H2 := fun x o h => b x o (a x o h)
theorem Ex.new {H : Hp} {p : Addr} {o : HO} (h : H p = none) : Ex H (upd H p o) := fun a u e => by
  rw [upd_ne (ne_of_none e h)]
  exact e
theorem Ex.rd {H H' : Hp} {a : Addr} {u : HO} (e : Ex H H') (h : Rd H a u) : Rd H' a u := by
  rcases h with h | ⟨o, h⟩
  · exact Or.inl (e a _ h)
  · exact Or.inr ⟨o, e a _ h⟩
theorem Ex.l {K : PySem.W.Frag} {H H' : Hp} {a : Addr} {xs : List V} (e : Ex H H') (h : SqL K H a xs) : SqL K H' a xs := by
  rcases h with h | h
  · exact Or.inl (e.rd h)
  · exact Or.inr h
theorem Ex.t {K : PySem.W.Frag} {H H' : Hp} {a : Addr} {xs : List V} (e : Ex H H') (h : SqT K H a xs) : SqT K H' a xs := by
  rcases h with h | h
  · exact Or.inl (e.rd h)
  · exact Or.inr h
/-- objects that are never changed -/
def im : HO → Bool
  | .tup _ => true
  | .frz _ _ => true
  | _ => false
def ExI (G G' : Hp) : Prop := ∀ a o, G a = some o → im o = true → G' a = some o
/-- what is asked of the class of an object that stands among data -/
structure ObjK (K : PySem.W.Frag) (C : Addr) : Prop where
  cl : Cls K C
  ha : PySem.W.findIn K (.ref C) "__class__" = some (some (.builtin "object.__class__"))
  hn : PySem.W.specialIn K (.builtin "object.__class__") "__get__" = some (some (.builtin "getset_descriptor.__get__"))
  ht : PySem.W.takesIn K (.builtin "object.__class__") = some true
  hm : PySem.W.mroIn K C (.type "object") = some true
  kt : PySem.W.mroIn K C (.type "tuple") = some false
mutual
/-- as Dp, the lists tracked -/
inductive Dq (K : PySem.W.Frag) (H : Hp) : V → PyData → Prop
  | non : Dq K H .non .none
  | bl (b : Bool) : Dq K H (.bl b) (.bool b)
  | int (i : Int) : Dq K H (.int i) (.int i)
  | str (x : Str) : Dq K H (.str x) (.str x)
  | lst {a : Addr} {xs : List V} {ds : List PyData} : H a = some (.lst xs) → DqAll K H xs ds → Dq K H (.ref a) (.list ds)
  | tup {a : Addr} {xs : List V} {ds : List PyData} : SqT K H a xs → DqAll K H xs ds → Dq K H (.ref a) (.tuple ds)
  /-- a dict, of which no more is known -/
  | dct {a : Addr} {ob : HO} {kvs : List (Key × V)} : H a = some ob → ob = .dK kvs → Dq K H (.ref a) (.dict [])
  /-- an object, of which no more is known -/
  | obj {a C dx : Addr} {fs : List (Str × V)} : H a = some (.ins C dx fs) → ObjK K C → Dq K H (.ref a) (.dict [(.none, .none)])
inductive DqAll (K : PySem.W.Frag) (H : Hp) : List V → List PyData → Prop
  | nil : DqAll K H [] []
  | cons {v : V} {vs : List V} {d : PyData} {ds : List PyData} : Dq K H v d → DqAll K H vs ds → DqAll K H (v :: vs) (d :: ds)
end
mutual
theorem dq_dp {K : PySem.W.Frag} {H : Hp} : ∀ {v : V} {d : PyData}, Dq K H v d → d.canLay0 = true → Dp K H v d
  | _, _, .non, _ => .non
  | _, _, .bl b, _ => .bl b
  | _, _, .int i, _ => .int i
  | _, _, .str x, _ => .str x
  | _, _, .lst h k, l => .lst (SqL.of h) (dqAll_dp k (by simpa only [PyData.canLay0] using l))
  | _, _, .tup h k, l => .tup h (dqAll_dp k (by simpa only [PyData.canLay0] using l))
  | _, _, .dct h e, l => by simp [PyData.canLay0] at l
  | _, _, .obj h _, l => by simp [PyData.canLay0] at l
theorem dqAll_dp {K : PySem.W.Frag} {H : Hp} : ∀ {vs : List V} {ds : List PyData}, DqAll K H vs ds → PyData.canLayAll0 ds = true → DpAll K H vs ds
  | _, _, .nil, _ => .nil
  | _, _, .cons a b, l => by
    have l' := Bool.and_eq_true_iff.mp (show (PyData.canLay0 _ && PyData.canLayAll0 _) = true by simpa only [PyData.canLayAll0] using l)
    exact .cons (dq_dp a l'.1) (dqAll_dp b l'.2)
end
mutual
theorem dq_mono {K : PySem.W.Frag} {H H' : Hp} (e : Ex H H') : ∀ {v : V} {d : PyData}, Dq K H v d → Dq K H' v d
  | _, _, .non => .non
  | _, _, .bl b => .bl b
  | _, _, .int i => .int i
  | _, _, .str x => .str x
  | _, _, .lst h k => .lst (e _ _ h) (dqAll_mono e k)
  | _, _, .tup h k => .tup (e.t h) (dqAll_mono e k)
  | _, _, .dct h q => .dct (e _ _ h) q
  | _, _, .obj h ok => .obj (e _ _ h) ok
theorem dqAll_mono {K : PySem.W.Frag} {H H' : Hp} (e : Ex H H') : ∀ {vs : List V} {ds : List PyData}, DqAll K H vs ds → DqAll K H' vs ds
  | _, _, .nil => .nil
  | _, _, .cons a b => .cons (dq_mono e a) (dqAll_mono e b)
end
mutual
def pureD : PyData → Bool
  | .list _ => false
  | .dict _ => false
  | .tuple ds => pureDs ds
  | _ => true
def pureDs : List PyData → Bool
  | [] => true
  | d :: ds => pureD d && pureDs ds
end
theorem ExI.t {K : PySem.W.Frag} {H H' : Hp} {a : Addr} {xs : List V} (e : ExI H H') (h : SqT K H a xs) : SqT K H' a xs := by
  rcases h with (h | ⟨o, h⟩) | h
  · exact Or.inl (Or.inl (e a _ h rfl))
  · exact Or.inl (Or.inr ⟨o, e a _ h rfl⟩)
  · exact Or.inr h
mutual
theorem dq_pure {K : PySem.W.Frag} {H H' : Hp} (e : ExI H H') : ∀ {v : V} {d : PyData}, pureD d = true → Dq K H v d → Dq K H' v d
  | _, _, _, .non => .non
  | _, _, _, .bl b => .bl b
  | _, _, _, .int i => .int i
  | _, _, _, .str x => .str x
  | _, _, p, .lst h k => by simp [pureD] at p
  | _, _, p, .tup h k => .tup (e.t h) (dqAll_pure e (by simpa [pureD] using p) k)
  | _, _, p, .dct h k => by simp [pureD] at p
  | _, _, p, .obj h _ => by simp [pureD] at p
theorem dqAll_pure {K : PySem.W.Frag} {H H' : Hp} (e : ExI H H') : ∀ {vs : List V} {ds : List PyData}, pureDs ds = true → DqAll K H vs ds → DqAll K H' vs ds
  | _, _, _, .nil => .nil
  | _, _, p, .cons a b => .cons (dq_pure e (by simp [pureDs] at p; exact p.1) a) (dqAll_pure e (by simp [pureDs] at p; exact p.2) b)
end
/-- typed data -/
class Enc (α : Type) where
  enc : α → PyData
open Enc (enc)
/-- what may be laid out and compared -/
class Lay (α : Type) [Enc α] where
  dep : Nat
  lay : ∀ x : α, (enc x).canLay0 = true
  dle : ∀ x : α, (enc x).depth ≤ dep
class PureE (α : Type) [Enc α] where
  hold : Bool
  pu : hold = false → ∀ x : α, pureD (enc x) = true
class EqE (α : Type) [Enc α] [DecidableEq α] : Prop where
  eqv : ∀ x y : α, PyData.eqv (enc x) (enc y) = decide (x = y)
theorem shaped_enc {α : Type} [Enc α] [Lay α] (h : Lay.dep α ≤ 64) (x : α) : SeqAt.shaped (enc x) = true := by
  show ((enc x).canLay0 && decide ((enc x).depth ≤ 64)) = true
  rw [Bool.and_eq_true]
  exact ⟨Lay.lay x, decide_eq_true (Nat.le_trans (Lay.dle x) h)⟩
instance : Enc Int := ⟨.int⟩
instance : Enc Bool := ⟨.bool⟩
instance : Enc Str := ⟨.str⟩
instance : Enc Unit := ⟨fun _ => .none⟩
instance : Enc PyData := ⟨id⟩
instance {α : Type} [Enc α] : Enc (List α) := ⟨fun xs => .list (xs.map enc)⟩
instance {α β : Type} [Enc α] [Enc β] : Enc (α × β) := ⟨fun x => .tuple [enc x.1, enc x.2]⟩
/-- a tuple of three, four, five (nested pairs would be read as pairs) -/
structure T3 (α β γ : Type) where
  (a : α) (b : β) (c : γ)
  deriving DecidableEq
structure T4 (α β γ δ : Type) where
  (a : α) (b : β) (c : γ) (d : δ)
  deriving DecidableEq
instance {α β γ : Type} [Enc α] [Enc β] [Enc γ] : Enc (T3 α β γ) := ⟨fun x => .tuple [enc x.a, enc x.b, enc x.c]⟩
instance {α β γ δ : Type} [Enc α] [Enc β] [Enc γ] [Enc δ] : Enc (T4 α β γ δ) := ⟨fun x => .tuple [enc x.a, enc x.b, enc x.c, enc x.d]⟩
instance : Lay Int := ⟨0, fun x => by show PyData.canLay0 (.int x) = true; simp [PyData.canLay0], fun x => by show PyData.depth (.int x) ≤ 0; simp [PyData.depth]⟩
instance : Lay Bool := ⟨0, fun x => by show PyData.canLay0 (.bool x) = true; simp [PyData.canLay0], fun x => by show PyData.depth (.bool x) ≤ 0; simp [PyData.depth]⟩
instance : Lay Unit := ⟨0, fun x => by show PyData.canLay0 .none = true; simp [PyData.canLay0], fun x => by show PyData.depth .none ≤ 0; simp [PyData.depth]⟩
theorem lay_all {α : Type} [Enc α] [Lay α] : ∀ xs : List α, PyData.canLayAll0 (xs.map enc) = true
  | [] => by simp [PyData.canLayAll0]
  | x :: xs => by simp [PyData.canLayAll0, Lay.lay x, lay_all xs]
theorem dep_all {α : Type} [Enc α] [Lay α] : ∀ xs : List α, PyData.depthAll (xs.map enc) ≤ Lay.dep α
  | [] => by simp [PyData.depthAll]
  | x :: xs => by
    have := dep_all xs
    have := Lay.dle x
    simp only [List.map_cons, PyData.depthAll]; omega
instance {α : Type} [Enc α] [Lay α] : Lay (List α) := ⟨Lay.dep α + 1, fun xs => by
  show PyData.canLay0 (.list (xs.map enc)) = true
  simp only [PyData.canLay0]; exact lay_all xs, fun xs => by
  have := dep_all xs
  show PyData.depth (.list (xs.map enc)) ≤ _
  simp only [PyData.depth]; omega⟩
instance {α β : Type} [Enc α] [Enc β] [Lay α] [Lay β] : Lay (α × β) := ⟨Lay.dep α + Lay.dep β + 1, fun x => by
  show PyData.canLay0 (.tuple [enc x.1, enc x.2]) = true
  simp [PyData.canLay0, PyData.canLayAll0, Lay.lay], fun x => by
  have := Lay.dle x.1
  have := Lay.dle x.2
  show PyData.depth (.tuple [enc x.1, enc x.2]) ≤ _
  simp only [PyData.depth, PyData.depthAll]; omega⟩
instance {α β γ : Type} [Enc α] [Enc β] [Enc γ] [Lay α] [Lay β] [Lay γ] : Lay (T3 α β γ) := ⟨Lay.dep α + Lay.dep β + Lay.dep γ + 1, fun x => by
  show PyData.canLay0 (.tuple [enc x.a, enc x.b, enc x.c]) = true
  simp [PyData.canLay0, PyData.canLayAll0, Lay.lay], fun x => by
  have := Lay.dle x.a
  have := Lay.dle x.b
  have := Lay.dle x.c
  show PyData.depth (.tuple [enc x.a, enc x.b, enc x.c]) ≤ _
  simp only [PyData.depth, PyData.depthAll]; omega⟩
instance {α β γ δ : Type} [Enc α] [Enc β] [Enc γ] [Enc δ] [Lay α] [Lay β] [Lay γ] [Lay δ] : Lay (T4 α β γ δ) := ⟨Lay.dep α + Lay.dep β + Lay.dep γ + Lay.dep δ + 1, fun x => by
  show PyData.canLay0 (.tuple [enc x.a, enc x.b, enc x.c, enc x.d]) = true
  simp [PyData.canLay0, PyData.canLayAll0, Lay.lay], fun x => by
  have := Lay.dle x.a
  have := Lay.dle x.b
  have := Lay.dle x.c
  have := Lay.dle x.d
  show PyData.depth (.tuple [enc x.a, enc x.b, enc x.c, enc x.d]) ≤ _
  simp only [PyData.depth, PyData.depthAll]; omega⟩
instance : PureE Int := ⟨false, fun _ _ => rfl⟩
instance : PureE Bool := ⟨false, fun _ _ => rfl⟩
instance : PureE Str := ⟨false, fun _ _ => rfl⟩
instance : PureE Unit := ⟨false, fun _ _ => rfl⟩
instance : PureE PyData := ⟨true, fun h => by cases h⟩
instance {α : Type} [Enc α] : PureE (List α) := ⟨true, fun h => by cases h⟩
theorem or_no {a b : Bool} (h : (a || b) = false) : a = false ∧ b = false := Bool.or_eq_false_iff.mp h
instance {α β : Type} [Enc α] [Enc β] [PureE α] [PureE β] : PureE (α × β) := ⟨PureE.hold α || PureE.hold β, fun h x => by
  show pureD (.tuple [enc x.1, enc x.2]) = true
  simp [pureD, pureDs, PureE.pu (or_no h).1, PureE.pu (or_no h).2]⟩
instance {α β γ : Type} [Enc α] [Enc β] [Enc γ] [PureE α] [PureE β] [PureE γ] : PureE (T3 α β γ) := ⟨PureE.hold α || (PureE.hold β || PureE.hold γ), fun h x => by
  show pureD (.tuple [enc x.a, enc x.b, enc x.c]) = true
  simp [pureD, pureDs, PureE.pu (or_no h).1, PureE.pu (or_no (or_no h).2).1, PureE.pu (or_no (or_no h).2).2]⟩
instance {α β γ δ : Type} [Enc α] [Enc β] [Enc γ] [Enc δ] [PureE α] [PureE β] [PureE γ] [PureE δ] : PureE (T4 α β γ δ) := ⟨PureE.hold α || (PureE.hold β || (PureE.hold γ || PureE.hold δ)), fun h x => by
  show pureD (.tuple [enc x.a, enc x.b, enc x.c, enc x.d]) = true
  simp [pureD, pureDs, PureE.pu (or_no h).1, PureE.pu (or_no (or_no h).2).1, PureE.pu (or_no (or_no (or_no h).2).2).1, PureE.pu (or_no (or_no (or_no h).2).2).2]⟩
instance : EqE Int := ⟨fun x y => by
  show PyData.eqv (.int x) (.int y) = _
  simp [PyData.eqv, Bool.beq_eq_decide_eq]⟩
instance : EqE Bool := ⟨fun x y => by
  show PyData.eqv (.bool x) (.bool y) = _
  simp [PyData.eqv, Bool.beq_eq_decide_eq]⟩
instance : EqE Unit := ⟨fun x y => by
  show PyData.eqv .none .none = _
  simp [PyData.eqv]⟩
theorem eqv_all {α : Type} [Enc α] [DecidableEq α] [EqE α] : ∀ xs ys : List α, PyData.eqvAll (xs.map enc) (ys.map enc) = decide (xs = ys)
  | [], [] => by simp [PyData.eqvAll]
  | [], _ :: _ => by simp [PyData.eqvAll]
  | _ :: _, [] => by simp [PyData.eqvAll]
  | x :: xs, y :: ys => by simp [PyData.eqvAll, EqE.eqv x y, eqv_all xs ys]
instance {α : Type} [Enc α] [DecidableEq α] [EqE α] : EqE (List α) := ⟨fun xs ys => by
  show PyData.eqv (.list (xs.map enc)) (.list (ys.map enc)) = _
  simp only [PyData.eqv]; exact eqv_all xs ys⟩
instance {α β : Type} [Enc α] [Enc β] [DecidableEq α] [DecidableEq β] [EqE α] [EqE β] : EqE (α × β) := ⟨fun x y => by
  obtain ⟨a, b⟩ := x
  obtain ⟨c, d⟩ := y
  show PyData.eqv (.tuple [enc a, enc b]) (.tuple [enc c, enc d]) = _
  simp [PyData.eqv, PyData.eqvAll, EqE.eqv]⟩
instance {α β γ : Type} [Enc α] [Enc β] [Enc γ] [DecidableEq α] [DecidableEq β] [DecidableEq γ] [EqE α] [EqE β] [EqE γ] : EqE (T3 α β γ) := ⟨fun x y => by
  obtain ⟨a, b, e⟩ := x
  obtain ⟨c, d, f⟩ := y
  show PyData.eqv (.tuple [enc a, enc b, enc e]) (.tuple [enc c, enc d, enc f]) = _
  simp [PyData.eqv, PyData.eqvAll, EqE.eqv]⟩
instance {α β γ δ : Type} [Enc α] [Enc β] [Enc γ] [Enc δ] [DecidableEq α] [DecidableEq β] [DecidableEq γ] [DecidableEq δ] [EqE α] [EqE β] [EqE γ] [EqE δ] : EqE (T4 α β γ δ) := ⟨fun x y => by
  obtain ⟨a, b, e, g⟩ := x
  obtain ⟨c, d, f, h⟩ := y
  show PyData.eqv (.tuple [enc a, enc b, enc e, enc g]) (.tuple [enc c, enc d, enc f, enc h]) = _
  simp [PyData.eqv, PyData.eqvAll, EqE.eqv]⟩
end Sm
namespace Sm
open PySem PySem.Spec L2
open Enc (enc)
abbrev Fr := PySem.W.Frag
/-- how a typed value lies: G is what never changes, H the heap, A the cells that belong to it -/
structure RT (K : Fr) (α : Type) where
  rel : Hp → Hp → V → α → (Addr → Prop) → Prop
  shr : Hp → V → α → Prop
  fix : Bool
  hold : Bool := false
  grow : ∀ {G G' H H' : Hp} {v : V} {x : α} {A : Addr → Prop}, rel G H v x A → Ex G G' → (∀ a, A a → H' a = H a) → rel G' H' v x A
  view : ∀ {G G' H : Hp} {v : V} {x : α} {A : Addr → Prop}, rel G H v x A → Ex G G' → (∀ a o, A a → H a = some o → G' a = some o) → shr G' v x
  smono : ∀ {G G' : Hp} {v : V} {x : α}, shr G v x → Ex G G' → shr G' v x
  wid : ∀ {G H : Hp} {v : V} {x : α} {A B : Addr → Prop}, rel G H v x A → (∀ a, A a → B a) → rel G H v x B
  ok : (fix = true ∧ ∀ (G H : Hp) (v : V) (x : α) (A : Addr → Prop), rel G H v x A ↔ shr G v x) ∨ (fix = false ∧ (hold = false → ∀ (G G' H : Hp) (v : V) (x : α) (A : Addr → Prop), rel G H v x A → ExI G G' → rel G' H v x A))
section
variable {K : Fr} {α β : Type}
def Lin (R : RT K α) : Prop := ∀ (G G' H : Hp) (v : V) (x : α) (A : Addr → Prop), R.rel G H v x A → ExI G G' → R.rel G' H v x A
def Cpy (R : RT K α) : Prop := ∀ (G H : Hp) (v : V) (x : α) (A : Addr → Prop), R.rel G H v x A ↔ R.shr G v x
theorem cpy_of {R : RT K α} (h : R.fix = true) : Cpy R := by
  rcases R.ok with ⟨_, k⟩ | ⟨f, _⟩
  · exact k
  · rw [h] at f; cases f
theorem lin_of {R : RT K α} (h : R.fix = false) (h2 : R.hold = false := by rfl) : Lin R := by
  rcases R.ok with ⟨f, _⟩ | ⟨_, k⟩
  · rw [h] at f; cases f
  · exact k h2
/-- data that is shared -/
def RT.dat (K : Fr) (α : Type) [Enc α] : RT K α where
  rel := fun G _ v x _ => Dq K G v (enc x)
  shr := fun G v x => Dq K G v (enc x)
  fix := true
  grow := fun h e _ => dq_mono e h
  view := fun h e _ => dq_mono e h
  smono := fun h e => dq_mono e h
  wid := fun h _ => h
  ok := .inl ⟨rfl, fun _ _ _ _ _ => Iff.rfl⟩
theorem lin_dat [Enc α] [PureE α] (h : PureE.hold α = false := by rfl) : Lin (RT.dat K α) := fun _ _ _ _ x _ q e => dq_pure e (PureE.pu h x) q
/-- the shared view of something -/
def RT.sh (R : RT K α) : RT K α where
  rel := fun G _ v x _ => R.shr G v x
  shr := R.shr
  fix := true
  grow := fun h e _ => R.smono h e
  view := fun h e _ => R.smono h e
  smono := R.smono
  wid := fun h _ => h
  ok := .inl ⟨rfl, fun _ _ _ _ _ => Iff.rfl⟩
/-- no more known -/
def RT.dead (K : Fr) (α : Type) : RT K α where
  rel := fun _ _ _ _ _ => True
  shr := fun _ _ _ => True
  fix := true
  grow := fun _ _ _ => trivial
  view := fun _ _ _ => trivial
  smono := fun _ _ => trivial
  wid := fun _ _ => trivial
  ok := .inl ⟨rfl, fun _ _ _ _ _ => Iff.rfl⟩
def All2 {α β : Type} (P : α → β → Prop) : List α → List β → Prop
  | [], [] => True
  | a :: as, b :: bs => P a b ∧ All2 P as bs
  | _, _ => False
theorem All2.imp {α β : Type} {P Q : α → β → Prop} (f : ∀ a b, P a b → Q a b) : ∀ {as : List α} {bs : List β}, All2 P as bs → All2 Q as bs
  | [], [], _ => trivial
  | _ :: _, _ :: _, h => ⟨f _ _ h.1, All2.imp f h.2⟩
theorem All2.len {α β : Type} {P : α → β → Prop} : ∀ {as : List α} {bs : List β}, All2 P as bs → as.length = bs.length
  | [], [], _ => rfl
  | _ :: _, _ :: _, h => by simp [All2.len h.2]
theorem All2.app {α β : Type} {P : α → β → Prop} : ∀ {as cs : List α} {bs ds : List β}, All2 P as bs → All2 P cs ds → All2 P (as ++ cs) (bs ++ ds)
  | [], _, [], _, _, h => h
  | _ :: _, _, _ :: _, _, h, k => ⟨h.1, All2.app h.2 k⟩
theorem All2.get {α β : Type} {P : α → β → Prop} : ∀ {as : List α} {bs : List β} {i : Nat} {b : β}, All2 P as bs → bs[i]? = some b → ∃ a, as[i]? = some a ∧ P a b
  | [], [], _, _, _, e => by simp at e
  | a :: _, b :: _, 0, c, h, e => by
    have e' : b = c := by simpa using e
    subst e'
    exact ⟨a, rfl, h.1⟩
  | _ :: _, _ :: _, i + 1, c, h, e => by
    obtain ⟨a, h1, h2⟩ := All2.get (i := i) h.2 (by simpa using e)
    exact ⟨a, by simpa using h1, h2⟩
theorem All2.set {α β : Type} {P : α → β → Prop} {a : α} {b : β} (p : P a b) : ∀ {as : List α} {bs : List β} (i : Nat), All2 P as bs → All2 P (as.set i a) (bs.set i b)
  | [], [], _, h => h
  | _ :: _, _ :: _, 0, h => ⟨p, h.2⟩
  | _ :: _, _ :: _, i + 1, h => ⟨h.1, All2.set p i h.2⟩
theorem All2.take {α β : Type} {P : α → β → Prop} : ∀ {as : List α} {bs : List β} (i : Nat), All2 P as bs → All2 P (as.take i) (bs.take i)
  | [], [], i, _ => by simp [All2]
  | _ :: _, _ :: _, 0, _ => by simp [All2]
  | _ :: _, _ :: _, i + 1, h => ⟨h.1, All2.take i h.2⟩
theorem All2.drop {α β : Type} {P : α → β → Prop} : ∀ {as : List α} {bs : List β} (i : Nat), All2 P as bs → All2 P (as.drop i) (bs.drop i)
  | [], [], i, _ => by simp [All2]
  | _ :: _, _ :: _, 0, h => h
  | _ :: _, _ :: _, i + 1, h => All2.drop i h.2
theorem All2.rev {α β : Type} {P : α → β → Prop} : ∀ {as : List α} {bs : List β}, All2 P as bs → All2 P as.reverse bs.reverse
  | [], [], _ => by simp [All2]
  | a :: as, b :: bs, h => by
    rw [List.reverse_cons, List.reverse_cons]
    exact All2.app (All2.rev h.2) ⟨h.1, trivial⟩
theorem dqAll_all2 [Enc α] {H : Hp} : ∀ {vs : List V} {xs : List α}, DqAll K H vs (xs.map enc) ↔ All2 (fun v x => Dq K H v (enc x)) vs xs
  | [], [] => ⟨fun _ => trivial, fun _ => .nil⟩
  | [], _ :: _ => ⟨fun h => (by cases h), fun h => (show False from h).elim⟩
  | _ :: _, [] => ⟨fun h => (by cases h), fun h => (show False from h).elim⟩
  | v :: vs, x :: xs => ⟨fun h => by
      cases h with
      | cons a b => exact ⟨a, dqAll_all2.mp b⟩, fun h => .cons h.1 (dqAll_all2.mpr h.2)⟩
/-- a list of one's own, of pure data -/
def RT.own (K : Fr) (α : Type) [Enc α] [PureE α] : RT K (List α) where
  rel := fun G H v xs A => ∃ p vs, v = .ref p ∧ A p ∧ H p = some (.lst vs) ∧ All2 (fun v x => Dq K G v (enc x)) vs xs
  shr := fun G v x => Dq K G v (enc x)
  fix := false
  hold := PureE.hold α
  grow := fun ⟨p, vs, e, a, h, k⟩ g f => ⟨p, vs, e, a, (f p a).trans h, k.imp fun _ _ q => dq_mono g q⟩
  view := fun ⟨p, vs, e, a, h, k⟩ g f => by
    subst e
    exact Dq.lst (f p _ a h) (dqAll_all2.mpr (k.imp fun _ _ q => dq_mono g q))
  smono := fun h e => dq_mono e h
  wid := fun ⟨p, vs, e, a, h, k⟩ f => ⟨p, vs, e, f p a, h, k⟩
  ok := .inr ⟨rfl, fun hh _ _ _ _ _ _ ⟨p, vs, e, a, h, k⟩ f => ⟨p, vs, e, a, h, k.imp fun _ x q => dq_pure f (PureE.pu hh x) q⟩⟩
end
/-- what may not lie beside something lent is forgotten meanwhile -/
def RT.hid {K : Fr} {α : Type} (R : RT K α) : RT K α := match R.hold with
  | true => RT.dead K α
  | false => R
def Env : List Type → Type
  | [] => Unit
  | α :: r => Option α × Env r
inductive Var : List Type → Type → Type 1
  | vz {α : Type} {r : List Type} : Var (α :: r) α
  | vs {α β : Type} {r : List Type} : Var r α → Var (β :: r) α
def RTs (K : Fr) : List Type → Type
  | [] => Unit
  | α :: r => RT K α × RTs K r
namespace Var
def idx : {αs : List Type} → {α : Type} → Var αs α → Nat
  | _, _, (.vz) => 0
  | _, _, (.vs x) => x.idx + 1
def get : {αs : List Type} → {α : Type} → Var αs α → Env αs → Option α
  | _, _, (.vz), s => s.1
  | _, _, (.vs x), s => x.get s.2
def set : {αs : List Type} → {α : Type} → Var αs α → Option α → Env αs → Env αs
  | _, _, (.vz), a, s => (a, s.2)
  | _, _, (.vs x), a, s => (s.1, x.set a s.2)
def rt {K : Fr} : {αs : List Type} → {α : Type} → Var αs α → RTs K αs → RT K α
  | _, _, (.vz), s => s.1
  | _, _, (.vs x), s => x.rt s.2
def setR {K : Fr} : {αs : List Type} → {α : Type} → Var αs α → RT K α → RTs K αs → RTs K αs
  | _, _, (.vz), a, s => (a, s.2)
  | _, _, (.vs x), a, s => (s.1, x.setR a s.2)
theorem lt : ∀ {αs : List Type} {α : Type} (x : Var αs α), x.idx < αs.length
  | _, _, (.vz) => Nat.succ_pos _
  | _, _, (.vs x) => Nat.succ_lt_succ x.lt
/-- either the same or another place -/
theorem split : ∀ {αs : List Type} {α : Type} (x : Var αs α) {P : ∀ β, Var αs β → Prop}, P α x → (∀ β (y : Var αs β), y.idx ≠ x.idx → P β y) → ∀ β (y : Var αs β), P β y
  | _, _, (.vz), P, h1, h2, β, y => by
    cases y with
    | vz => exact h1
    | vs y => exact h2 _ _ (by simp [idx])
  | _, _, (.vs x), P, h1, h2, β, y => by
    cases y with
    | vz => exact h2 _ _ (by simp [idx])
    | vs y => exact split x (P := fun β y => P β (.vs y)) h1 (fun β y h => h2 β (.vs y) (by simpa [idx] using h)) β y
theorem get_set : ∀ {αs : List Type} {α : Type} (x : Var αs α) (a : Option α) (s : Env αs), x.get (x.set a s) = a
  | _, _, (.vz), _, _ => rfl
  | _, _, (.vs x), a, s => x.get_set a s.2
theorem rt_set {K : Fr} : ∀ {αs : List Type} {α : Type} (x : Var αs α) (a : RT K α) (s : RTs K αs), x.rt (x.setR a s) = a
  | _, _, (.vz), _, _ => rfl
  | _, _, (.vs x), a, s => x.rt_set a s.2
theorem get_ne : ∀ {αs : List Type} {α β : Type} (x : Var αs α) (y : Var αs β) (a : Option α) (s : Env αs), y.idx ≠ x.idx → y.get (x.set a s) = y.get s
  | _, _, _, (.vz), (.vz), _, _, h => absurd rfl h
  | _, _, _, (.vz), (.vs _), _, _, _ => rfl
  | _, _, _, (.vs _), (.vz), _, _, _ => rfl
  | _, _, _, (.vs x), (.vs y), a, s, h => get_ne x y a s.2 (by simpa [idx] using h)
theorem rt_ne {K : Fr} : ∀ {αs : List Type} {α β : Type} (x : Var αs α) (y : Var αs β) (a : RT K α) (s : RTs K αs), y.idx ≠ x.idx → y.rt (x.setR a s) = y.rt s
  | _, _, _, (.vz), (.vz), _, _, h => absurd rfl h
  | _, _, _, (.vz), (.vs _), _, _, _ => rfl
  | _, _, _, (.vs _), (.vz), _, _, _ => rfl
  | _, _, _, (.vs x), (.vs y), a, s, h => rt_ne x y a s.2 (by simpa [idx] using h)
end Var
/-- all that may not lie beside something lent forgotten -/
def hideR {K : Fr} : {αs : List Type} → RTs K αs → RTs K αs
  | [], s => s
  | _ :: _, s => (RT.hid s.1, hideR s.2)
def holdAt {K : Fr} : {αs : List Type} → RTs K αs → Nat → Bool
  | [], _, _ => false
  | _ :: _, s, 0 => s.1.hold
  | _ :: _, s, i + 1 => holdAt s.2 i
theorem holdAt_rt {K : Fr} : ∀ {αs : List Type} {α : Type} (x : Var αs α) (s : RTs K αs), holdAt s x.idx = (x.rt s).hold
  | _, _, Var.vz, _ => rfl
  | _, _, Var.vs x, s => holdAt_rt x s.2
theorem hide_rt {K : Fr} : ∀ {αs : List Type} {α : Type} (x : Var αs α) (s : RTs K αs), x.rt (hideR s) = RT.hid (x.rt s)
  | _, _, Var.vz, _ => rfl
  | _, _, Var.vs x, s => hide_rt x s.2
abbrev M (αs : List Type) (β : Type) := Env αs → Option (β × Env αs)
/-- the entry: what never changes, the heap, the cells that may be changed -/
structure C0 where
  G0 : Hp
  H0 : Hp
  M0 : Addr → Prop
/-- the heap has grown: G and H by new cells, nothing changed -/
structure Al (G H G' H' : Hp) : Prop where
  g : Ex G G'
  gh : Ex G' H'
  h : Ex H H'
  new : ∀ a, H a ≠ none → G a = none → G' a = none
theorem Al.refl {G H : Hp} (e : Ex G H) : Al G H G H := ⟨Ex.refl _, e, Ex.refl _, fun _ _ h => h⟩
theorem Al.trans {G H G1 H1 G2 H2 : Hp} (a : Al G H G1 H1) (b : Al G1 H1 G2 H2) : Al G H G2 H2 :=
  ⟨a.g.trans b.g, b.gh, a.h.trans b.h, fun x hx gx => b.new x (by
    cases q : H x with
    | none => exact absurd q hx
    | some o => rw [a.h x o q]; simp) (a.new x hx gx)⟩
/-- a new object that is known -/
theorem Al.kn {G H : Hp} (e : Ex G H) {p : Addr} {o : HO} (hp : H p = none) : Al G H (upd G p o) (upd H p o) := by
  have gp : G p = none := by
    cases q : G p with
    | none => rfl
    | some u => rw [e p u q] at hp; cases hp
  refine ⟨Ex.new gp, fun a u h => ?_, Ex.new hp, fun a ha ga => ?_⟩
  · by_cases z : a = p
    · subst z; rw [upd_same] at h ⊢; exact h
    · rw [upd_ne z] at h ⊢; exact e a u h
  · have : a ≠ p := fun z => by subst z; exact ha hp
    rw [upd_ne this]; exact ga
/-- a new object of one's own -/
theorem Al.my {G H : Hp} (e : Ex G H) {p : Addr} {o : HO} (hp : H p = none) : Al G H G (upd H p o) :=
  ⟨Ex.refl _, e.trans (Ex.new hp), Ex.new hp, fun _ _ h => h⟩
structure Ok {K : Fr} (C : C0) {αs : List Type} (Γ : RTs K αs) (s : Env αs) (σ : L2.St) (G H : Hp) (o : Addr → Option Nat) : Prop where
  g : Ex C.G0 G
  gh : Ex G H
  new : ∀ a, ¬ C.M0 a → C.H0 a ≠ none → C.G0 a = none → G a = none
  fr : ∀ a ob, ¬ C.M0 a → C.H0 a = some ob → H a = some ob
  dom : ∀ a, C.H0 a ≠ none → H a ≠ none
  imm : ∀ a ob, C.H0 a = some ob → im ob = true → H a = some ob
  own : ∀ a, o a ≠ none → G a = none ∧ (∃ ob, H a = some ob ∧ im ob = false) ∧ (C.M0 a ∨ C.H0 a = none)
  len : σ.length = αs.length
  sl : ∀ (α : Type) (x : Var αs α) (a : α), x.get s = some a → ∃ v, σ[x.idx]? = some (some v) ∧ (x.rt Γ).rel G H v a (fun p => o p = some x.idx)
section
variable {K : Fr} {C : C0} {αs : List Type} {Γ : RTs K αs} {s : Env αs} {σ : L2.St} {G H G' H' : Hp} {o : Addr → Option Nat}
theorem Ok.al (k : Ok C Γ s σ G H o) (a : Al G H G' H') : Ok C Γ s σ G' H' o := by
  refine ⟨k.g.trans a.g, a.gh, fun b nm hb gb => a.new b (k.dom b hb) (k.new b nm hb gb), fun b ob nm hb => a.h b ob (k.fr b ob nm hb), fun b hb => ?_, fun b ob hb i => a.h b ob (k.imm b ob hb i), fun b hb => ?_, k.len, fun α x y hx => ?_⟩
  · cases q : H b with
    | none => exact absurd q (k.dom b hb)
    | some u => rw [a.h b u q]; simp
  · obtain ⟨h1, ⟨ob, h2, h3⟩, h4⟩ := k.own b hb
    exact ⟨a.new b (by rw [h2]; simp) h1, ⟨ob, a.h b ob h2, h3⟩, h4⟩
  · obtain ⟨v, e, r⟩ := k.sl α x y hx
    refine ⟨v, e, (x.rt Γ).grow r a.g fun b hb => ?_⟩
    obtain ⟨_, ⟨ob, h2, _⟩, _⟩ := k.own b (by rw [show o b = some x.idx from hb]; simp)
    rw [h2, a.h b ob h2]
open Classical in
noncomputable def setO (B : Addr → Prop) (i : Nat) (o : Addr → Option Nat) : Addr → Option Nat := fun a => if B a then some i else if o a = some i then none else o a
theorem setO_none {B : Addr → Prop} {i : Nat} {o : Addr → Option Nat} {a : Addr} (h1 : ¬ B a) (h2 : o a = none) : setO B i o a = none := by
  unfold setO
  rw [if_neg h1, if_neg (by rw [h2]; simp)]
  exact h2
/-- a slot is stored -/
theorem Ok.set' {α : Type} (k : Ok C Γ s σ G H o) (x : Var αs α) (R : RT K α) {v : V} {y : α} {B : Addr → Prop} (r : R.rel G H v y B)
    (hB : ∀ a, B a → o a = none ∧ G a = none ∧ (∃ ob, H a = some ob ∧ im ob = false) ∧ (C.M0 a ∨ C.H0 a = none)) :
    Ok C (x.setR R Γ) (x.set (some y) s) (σ.set x.idx (some v)) G H (setO B x.idx o) := by
  classical
  refine ⟨k.g, k.gh, k.new, k.fr, k.dom, k.imm, fun a ha => ?_, by rw [List.length_set]; exact k.len, Var.split x ?_ fun β z hz w hw => ?_⟩
  · by_cases hb : B a
    · exact (hB a hb).2
    · simp only [setO, hb, if_false] at ha
      by_cases hi : o a = some x.idx
      · simp [hi] at ha
      · simp only [hi, if_false] at ha
        exact k.own a ha
  · intro w hw
    rw [Var.get_set] at hw
    cases hw
    refine ⟨v, by rw [List.getElem?_set_self (by rw [k.len]; exact x.lt)], ?_⟩
    rw [Var.rt_set]
    exact R.wid r fun a hb => by simp [setO, hb]
  · rw [Var.get_ne x z _ _ hz] at hw
    obtain ⟨u, e, q⟩ := k.sl β z w hw
    refine ⟨u, by rw [List.getElem?_set_ne (Ne.symm hz)]; exact e, ?_⟩
    rw [Var.rt_ne x z _ _ hz]
    refine (z.rt Γ).wid q fun a ha => ?_
    have ha' : o a = some z.idx := ha
    have nb : ¬ B a := fun hb => by rw [(hB a hb).1] at ha'; cases ha'
    have ni : o a ≠ some x.idx := fun e => by rw [ha'] at e; exact hz (Option.some.inj e)
    show setO B x.idx o a = some z.idx
    unfold setO
    rw [if_neg nb, if_neg ni]; exact ha'
theorem Ok.set {α : Type} (k : Ok C Γ s σ G H o) (x : Var αs α) (R : RT K α) {v : V} {y : α} {B : Addr → Prop} (r : R.rel G H v y B)
    (hB : ∀ a, B a → o a = none ∧ G a = none ∧ (∃ ob, H a = some ob ∧ im ob = false) ∧ (C.M0 a ∨ C.H0 a = none)) :
    ∃ o', Ok C (x.setR R Γ) (x.set (some y) s) (σ.set x.idx (some v)) G H o' := ⟨_, k.set' x R r hB⟩
/-- temporary cells -/
def Tmp (C : C0) (B : Addr → Prop) (G H : Hp) (o : Addr → Option Nat) : Prop := ∀ a, B a → o a = none ∧ G a = none ∧ (∃ ob, H a = some ob ∧ im ob = false) ∧ (C.M0 a ∨ C.H0 a = none)
theorem tmp0 {C : C0} {G H : Hp} {o : Addr → Option Nat} : Tmp C (fun _ => False) G H o := fun _ h => h.elim
/-- what is not of its own is as it was -/
def Kp (Γ : RTs K αs) (s s' : Env αs) : Prop := ∀ (α : Type) (x : Var αs α), (x.rt Γ).fix = true → x.get s' = x.get s
theorem Kp.refl : Kp Γ s s := fun _ _ _ => rfl
theorem Kp.trans {s1 s2 : Env αs} (a : Kp Γ s s1) (b : Kp Γ s1 s2) : Kp Γ s s2 := fun α x h => (b α x h).trans (a α x h)
end
/-- the judgement for an expression -/
def XE (X : Cx) {αs : List Type} (Γ : RTs X.K αs) (e : Expr) {β : Type} (R : RT X.K β) (m : M αs β) : Prop :=
  ∀ (C : C0) (s : Env αs) (σ : L2.St) (G H : Hp) (o : Addr → Option Nat), Ok C Γ s σ G H o → ∀ (x : β) (s' : Env αs), m s = some (x, s') → ∀ Q : VK,
    (∀ (v : V) (G' H' : Hp) (o' : Addr → Option Nat) (B : Addr → Prop), Ok C Γ s' σ G' H' o' → Ex G G' → Kp Γ s s' → R.rel G' H' v x B → Tmp C B G' H' o' → Q v H') → wE X e σ H Q
/-- for a test -/
def XT (X : Cx) {αs : List Type} (Γ : RTs X.K αs) (e : Expr) (m : M αs Bool) : Prop :=
  ∀ (C : C0) (s : Env αs) (σ : L2.St) (G H : Hp) (o : Addr → Option Nat), Ok C Γ s σ G H o → ∀ (x : Bool) (s' : Env αs), m s = some (x, s') → ∀ Q : Bool → Hp → Prop,
    (∀ (G' H' : Hp) (o' : Addr → Option Nat), Ok C Γ s' σ G' H' o' → Ex G G' → Kp Γ s s' → Q x H') → wT X e σ H Q
def XW (X : Cx) {αs : List Type} (Γ : RTs X.K αs) (e : Expr) (m : M αs Bool) : Prop :=
  ∀ (C : C0) (s : Env αs) (σ : L2.St) (G H : Hp) (o : Addr → Option Nat), Ok C Γ s σ G H o → ∀ (x : Bool) (s' : Env αs), m s = some (x, s') → ∀ Q : Bool → Hp → Prop,
    (∀ (G' H' : Hp) (o' : Addr → Option Nat), Ok C Γ s' σ G' H' o' → Ex G G' → Kp Γ s s' → Q x H') → wW X e σ H Q
end Sm
namespace Sm
open PySem PySem.Spec L2
open Enc (enc)
section
variable {αs : List Type} {α β γ δ : Type}
def mC (b : β) : M αs β := fun s => some (b, s)
def mV (x : Var αs α) : M αs α := fun s => (x.get s).bind fun a => some (a, s)
def m1 (f : α → Option β) (m : M αs α) : M αs β := fun s => (m s).bind fun p => (f p.1).bind fun b => some (b, p.2)
def m2 (f : α → β → Option γ) (m : M αs α) (n : M αs β) : M αs γ := fun s => (m s).bind fun p => (n p.2).bind fun q => (f p.1 q.1).bind fun c => some (c, q.2)
def m3 (f : α → β → γ → Option δ) (m : M αs α) (n : M αs β) (l : M αs γ) : M αs δ := fun s => (m s).bind fun p => (n p.2).bind fun q => (l q.2).bind fun r => (f p.1 q.1 r.1).bind fun c => some (c, r.2)
/-- if, on tests -/
def mIte (c : M αs Bool) (m n : M αs β) : M αs β := fun s => (c s).bind fun p => if p.1 = true then m p.2 else n p.2
theorem bindE {α β : Type} {o : Option α} {f : α → Option β} {b : β} (h : o.bind f = some b) : ∃ a, o = some a ∧ f a = some b := Option.bind_eq_some_iff.mp h
theorem m1E {f : α → Option β} {m : M αs α} {s s' : Env αs} {b : β} (h : m1 f m s = some (b, s')) : ∃ a, m s = some (a, s') ∧ f a = some b := by
  obtain ⟨⟨a, s1⟩, h1, h⟩ := bindE h
  obtain ⟨b', h2, h⟩ := bindE h
  cases h
  exact ⟨a, h1, h2⟩
theorem m2E {f : α → β → Option γ} {m : M αs α} {n : M αs β} {s s' : Env αs} {c : γ} (h : m2 f m n s = some (c, s')) : ∃ a s1 b, m s = some (a, s1) ∧ n s1 = some (b, s') ∧ f a b = some c := by
  obtain ⟨⟨a, s1⟩, h1, h⟩ := bindE h
  obtain ⟨⟨b, s2⟩, h2, h⟩ := bindE h
  obtain ⟨c', h3, h⟩ := bindE h
  cases h
  exact ⟨a, s1, b, h1, h2, h3⟩
end
/-- new cells of one's own -/
def NewB (G H G' H' : Hp) (B : Addr → Prop) : Prop := ∀ a, B a → H a = none ∧ G' a = none ∧ ∃ ob, H' a = some ob ∧ im ob = false
theorem newB0 {G H G' H' : Hp} : NewB G H G' H' fun _ => False := fun _ h => h.elim
section
variable {X : Cx} {αs : List Type} {Γ : RTs X.K αs} {α β γ : Type} {e a b c : Expr} {R : RT X.K β}
theorem NewB.tmp {C : C0} {s : Env αs} {σ : L2.St} {G H G' H' : Hp} {o : Addr → Option Nat} {B : Addr → Prop} (k : Ok C Γ s σ G H o) (n : NewB G H G' H' B) : Tmp C B G' H' o := fun x hx => by
  obtain ⟨h1, h2, h3⟩ := n x hx
  refine ⟨?_, h2, h3, .inr ?_⟩
  · cases q : o x with
    | none => rfl
    | some i =>
      obtain ⟨_, ⟨ob, h, _⟩, _⟩ := k.own x (by rw [q]; simp)
      rw [h1] at h; cases h
  · cases q : C.H0 x with
    | none => rfl
    | some i => exact absurd h1 (k.dom x (by rw [q]; simp))
/-- leaf: nothing evaluated -/
theorem XE.leaf {t : TE} {z : β} (hpe : PE X e t) (hr : ∀ (σ : L2.St) (G H : Hp) (Q : VK), Ex G H → (∀ w G' H' B, Al G H G' H' → R.rel G' H' w z B → NewB G H G' H' B → Q w H') → t σ H Q) : XE X Γ e R (mC z) := by
  intro C s σ G H o k x s' hm Q q
  cases hm
  exact wE_of hpe (hr σ G H Q k.gh fun w G2 H2 B2 al r2 nb => q w G2 H2 o B2 (k.al al) al.g .refl r2 (nb.tmp k))
theorem XE.un {Ra : RT X.K α} {ma : M αs α} {r : V → Hp → VK → Prop} {f : α → Option β} (hpe : PE X e (fun σ H Q => wE X a σ H fun v H1 => r v H1 Q)) (ha : XE X Γ a Ra ma) (hc : Ra.fix = true)
    (hr : ∀ (G H : Hp) (v : V) (x : α) (z : β) (Q : VK), Ex G H → Ra.shr G v x → f x = some z → (∀ w G' H' B, Al G H G' H' → R.rel G' H' w z B → NewB G H G' H' B → Q w H') → r v H Q) : XE X Γ e R (m1 f ma) := by
  intro C s σ G H o k z s' hm Q q
  obtain ⟨x, h1, h2⟩ := m1E hm
  refine wE_of hpe ?_
  show wE X a σ H (fun v H1 => r v H1 Q)
  refine ha C s σ G H o k x s' h1 _ fun v G1 H1 o1 B k1 g1 kp r1 t1 => ?_
  exact hr G1 H1 v x z Q k1.gh ((cpy_of hc _ _ _ _ _).mp r1) h2 fun w G2 H2 B2 al r2 nb => q w G2 H2 o1 B2 (k1.al al) (g1.trans al.g) kp r2 (nb.tmp k1)
theorem XE.bin {Ra : RT X.K α} {Rb : RT X.K γ} {ma : M αs α} {mb : M αs γ} {r : V → V → Hp → VK → Prop} {f : α → γ → Option β} (hpe : PE X e (fun σ H Q => wE X a σ H fun v H1 => wE X b σ H1 fun u H2 => r v u H2 Q)) (ha : XE X Γ a Ra ma) (hb : XE X Γ b Rb mb)
    (hca : Ra.fix = true) (hcb : Rb.fix = true)
    (hr : ∀ (G H : Hp) (v u : V) (x : α) (y : γ) (z : β) (Q : VK), Ex G H → Ra.shr G v x → Rb.shr G u y → f x y = some z → (∀ w G' H' B, Al G H G' H' → R.rel G' H' w z B → NewB G H G' H' B → Q w H') → r v u H Q) : XE X Γ e R (m2 f ma mb) := by
  intro C s σ G H o k z s' hm Q q
  obtain ⟨x, s1, y, h1, h2, h3⟩ := m2E hm
  refine wE_of hpe ?_
  show wE X a σ H (fun v H1 => wE X b σ H1 fun u H2 => r v u H2 Q)
  refine ha C s σ G H o k x s1 h1 _ fun v G1 H1 o1 B k1 g1 kp r1 t1 => ?_
  refine hb C s1 σ G1 H1 o1 k1 y s' h2 _ fun u G2 H2 o2 B' k2 g2 kp2 r2 t2 => ?_
  exact hr G2 H2 v u x y z Q k2.gh (Ra.smono ((cpy_of hca _ _ _ _ _).mp r1) g2) ((cpy_of hcb _ _ _ _ _).mp r2) h3 fun w G3 H3 B3 al r3 nb => q w G3 H3 o2 B3 (k2.al al) ((g1.trans g2).trans al.g) (kp.trans kp2) r3 (nb.tmp k2)
/-- a name whose slot may be shared -/
theorem XE.var {x : Var αs β} {n : Str} {pos : Pos} (hpe : PE X (.Name n pos) (tVar x.idx)) (hc : (x.rt Γ).fix = true) (hR : R.fix = true) (hs : ∀ G v y, (x.rt Γ).shr G v y → R.shr G v y) : XE X Γ (.Name n pos) R (mV x) := by
  intro C s σ G H o k z s' hm Q q
  obtain ⟨y, h1, h⟩ := bindE hm
  cases h
  obtain ⟨v, e, r⟩ := k.sl β x z h1
  exact wE_of hpe ⟨v, e, q v G H o (fun _ => False) k (Ex.refl _) .refl ((cpy_of hR _ _ _ _ _).mpr (hs _ _ _ ((cpy_of hc _ _ _ _ _).mp r))) tmp0⟩
/-- one's own value given away to be shared -/
theorem XE.freeze {R0 : RT X.K β} {m : M αs β} (h : XE X Γ e R0 m) : XE X Γ e (RT.sh R0) m := by
  classical
  intro C s σ G H o k z s' hm Q q
  refine h C s σ G H o k z s' hm Q fun v G1 H1 o1 B k1 g1 kp r1 t1 => ?_
  have ex : Ex G1 (fun a => if B a then H1 a else G1 a) := fun a ob e => by
    by_cases hb : B a
    · have := (t1 a hb).2.1; rw [this] at e; cases e
    · simp [hb, e]
  refine q v (fun a => if B a then H1 a else G1 a) H1 o1 (fun _ => False) ?_ (g1.trans ex) kp (R0.view r1 ex fun a ob hb e => by simp [hb, e]) tmp0
  refine ⟨k1.g.trans ex, fun a ob e => ?_, fun a nm h0 g0 => ?_, k1.fr, k1.dom, k1.imm, fun a ha => ?_, k1.len, fun α x y hx => ?_⟩
  · by_cases hb : B a
    · simpa [hb] using e
    · simp only [hb, if_false] at e
      exact k1.gh a ob e
  · have nb : ¬ B a := fun hb => by
      rcases (t1 a hb).2.2.2 with z | z
      · exact nm z
      · exact h0 z
    simp only [nb, if_false]
    exact k1.new a nm h0 g0
  · obtain ⟨h1, h2, h3⟩ := k1.own a ha
    have nb : ¬ B a := fun hb => ha (t1 a hb).1
    exact ⟨by simp [nb, h1], h2, h3⟩
  · obtain ⟨u, e, r⟩ := k1.sl α x y hx
    exact ⟨u, e, (x.rt Γ).grow r ex fun _ _ => rfl⟩
/-- x lent -/
def lend {K : Fr} {αs : List Type} {α : Type} (x : Var αs α) (Γ : RTs K αs) : RTs K αs := hideR (x.setR (RT.sh (x.rt Γ)) Γ)
theorem lend_self {K : Fr} {αs : List Type} {α : Type} (x : Var αs α) (Γ : RTs K αs) : x.rt (lend x Γ) = RT.sh (x.rt Γ) := by
  unfold lend
  rw [hide_rt, Var.rt_set]; rfl
theorem lend_ne {K : Fr} {αs : List Type} {α β : Type} (x : Var αs α) (y : Var αs β) (Γ : RTs K αs) (h : y.idx ≠ x.idx) : y.rt (lend x Γ) = RT.hid (y.rt Γ) := by
  unfold lend
  rw [hide_rt, Var.rt_ne x y _ _ h]
theorem hid_no {K : Fr} {α : Type} {R : RT K α} (h : R.hold = false) : RT.hid R = R := by unfold RT.hid; rw [h]
theorem hid_yes {K : Fr} {α : Type} {R : RT K α} (h : R.hold = true) : RT.hid R = RT.dead K α := by unfold RT.hid; rw [h]
/-- what is owned at x seen as shared for a while -/
theorem Ok.borrow {C : C0} {s : Env αs} {σ : L2.St} {G H : Hp} {o : Addr → Option Nat} (k : Ok C Γ s σ G H o) {α : Type} (x : Var αs α) :
    ∃ C' G1 o1, Ok C' (lend x Γ) s σ G1 H o1 ∧ Ex G G1 ∧ ∀ s' G' H' o', Ok C' (lend x Γ) s' σ G' H' o' → Ex G1 G' → Kp (lend x Γ) s s' →
      ∃ G2 o2, Ok C Γ s' σ G2 H' o2 ∧ Ex G G2 ∧ ExI G' G2 ∧ Kp Γ s s' ∧ ∀ B, Tmp C' B G' H' o' → Tmp C B G2 H' o2 := by
  classical
  -- the cells of what is forgotten meanwhile
  obtain ⟨hd, hhd⟩ : ∃ hd : Addr → Prop, ∀ a, hd a ↔ ∃ i, o a = some i ∧ holdAt Γ i = true ∧ i ≠ x.idx := ⟨_, fun a => Iff.rfl⟩
  have SG : ∀ a, o a = some x.idx → G a = none := fun a h => (k.own a (by rw [h]; simp)).1
  have hx : ∀ a, hd a → o a ≠ some x.idx := fun a h z => by
    obtain ⟨i, h1, _, h3⟩ := (hhd a).mp h
    rw [h1] at z; exact h3 (Option.some.inj z)
  have ho : ∀ a, hd a → o a ≠ none := fun a h z => by
    obtain ⟨i, h1, _, _⟩ := (hhd a).mp h
    rw [h1] at z; cases z
  have hy : ∀ (β : Type) (y : Var αs β) (a : Addr), o a = some y.idx → y.idx ≠ x.idx → (hd a ↔ (y.rt Γ).hold = true) := fun β y a h n => by
    rw [hhd]
    constructor
    · rintro ⟨i, h1, h2, _⟩
      rw [h] at h1; cases h1
      rwa [holdAt_rt] at h2
    · intro h2
      exact ⟨y.idx, h, by rw [holdAt_rt]; exact h2, n⟩
  have ex1 : Ex G (fun a => if o a = some x.idx then H a else G a) := fun a ob e => by
    by_cases h : o a = some x.idx
    · rw [SG a h] at e; cases e
    · simp only [h, if_false]; exact e
  refine ⟨⟨fun a => if o a = some x.idx then H a else G a, H, fun a => (o a ≠ none ∧ o a ≠ some x.idx) ∧ ¬ hd a⟩, fun a => if o a = some x.idx then H a else G a, fun a => if o a = some x.idx then none else if hd a then none else o a, ?_, ex1, ?_⟩
  · refine ⟨Ex.refl _, fun a ob e => ?_, fun _ _ _ h => h, fun _ _ _ h => h, fun _ h => h, fun _ _ h _ => h, fun a ha => ?_, k.len, Var.split x ?_ fun β y hyx z hz => ?_⟩
    · by_cases h : o a = some x.idx
      · simpa [h] using e
      · simp only [h, if_false] at e; exact k.gh a ob e
    · by_cases h : o a = some x.idx
      · simp [h] at ha
      · simp only [h, if_false] at ha
        by_cases q : hd a
        · simp [q] at ha
        · simp only [q, if_false] at ha
          obtain ⟨h1, h2, h3⟩ := k.own a ha
          exact ⟨by simp only [h, if_false]; exact h1, h2, .inl ⟨⟨ha, h⟩, q⟩⟩
    · intro z hz
      obtain ⟨v, e, r⟩ := k.sl α x z hz
      refine ⟨v, e, ?_⟩
      rw [lend_self]
      exact (x.rt Γ).view r ex1 fun a ob ha hb => by
        have ha' : o a = some x.idx := ha
        simp only [ha', if_true]; exact hb
    · obtain ⟨v, e, r⟩ := k.sl β y z hz
      refine ⟨v, e, ?_⟩
      rw [lend_ne x y _ hyx]
      cases hh : (y.rt Γ).hold with
      | true => rw [hid_yes hh]; exact trivial
      | false =>
        rw [hid_no hh]
        refine (y.rt Γ).wid ((y.rt Γ).grow r ex1 fun _ _ => rfl) fun a ha => ?_
        have ha' : o a = some y.idx := ha
        show (if o a = some x.idx then none else if hd a then none else o a) = some y.idx
        rw [if_neg (by rw [ha']; exact fun e => hyx (Option.some.inj e)), if_neg (fun q => by rw [(hy β y a ha' hyx).mp q] at hh; cases hh)]
        exact ha'
  · intro s' G' H' o' k' e' kp
    have S1 : ∀ a, o a = some x.idx → ∃ ob, H a = some ob ∧ H' a = some ob ∧ G' a = some ob ∧ im ob = false := fun a h => by
      obtain ⟨_, ⟨ob, h2, h3⟩, _⟩ := k.own a (by rw [h]; simp)
      exact ⟨ob, h2, k'.fr a ob (fun z => z.1.2 h) h2, e' a ob (by simp only [h, if_true]; exact h2), h3⟩
    have S2 : ∀ a, hd a → ∃ ob, H a = some ob ∧ H' a = some ob ∧ G' a = none ∧ o' a = none ∧ im ob = false := fun a h => by
      obtain ⟨h1, ⟨ob, h2, h3⟩, _⟩ := k.own a (ho a h)
      refine ⟨ob, h2, k'.fr a ob (fun z => z.2 h) h2, k'.new a (fun z => z.2 h) (by show H a ≠ none; rw [h2]; simp) (by simp only [hx a h, if_false]; exact h1), ?_, h3⟩
      cases q : o' a with
      | none => rfl
      | some i =>
        rcases (k'.own a (by rw [q]; simp)).2.2 with z | z
        · exact absurd h z.2
        · have z' : H a = none := z
          rw [h2] at z'; cases z'
    have exg : Ex G (fun a => if o a = some x.idx then none else G' a) := fun a ob e => by
      have h : o a ≠ some x.idx := fun h => by rw [SG a h] at e; cases e
      simp only [h, if_false]
      exact e' a ob (ex1 a ob e)
    have exi : ExI G' (fun a => if o a = some x.idx then none else G' a) := fun a ob e i => by
      have h : o a ≠ some x.idx := fun h => by
        obtain ⟨ob', _, _, h3, h4⟩ := S1 a h
        rw [h3] at e; cases e; rw [h4] at i; cases i
      simp only [h, if_false]; exact e
    have nS : ∀ a i, o' a = some i → o a ≠ some x.idx := fun a i h z => by
      obtain ⟨ob', _, _, h3, _⟩ := S1 a z
      have := (k'.own a (by rw [h]; simp)).1
      rw [this] at h3; cases h3
    have nS2 : ∀ a i, o' a = some i → ¬ hd a := fun a i h z => by
      obtain ⟨_, _, _, _, h3, _⟩ := S2 a z
      rw [h] at h3; cases h3
    have back : ∀ a, (((o a ≠ none ∧ o a ≠ some x.idx) ∧ ¬ hd a) ∨ H a = none) → C.M0 a ∨ C.H0 a = none := fun a h => by
      rcases h with h | h
      · exact (k.own a h.1.1).2.2
      · right
        cases q : C.H0 a with
        | none => rfl
        | some u => exact absurd h (k.dom a (by rw [q]; simp))
    have kpx : x.get s' = x.get s := kp α x (by rw [lend_self]; rfl)
    have kph : ∀ (β : Type) (y : Var αs β), y.idx ≠ x.idx → (y.rt Γ).hold = true → y.get s' = y.get s := fun β y hyx hh => kp β y (by rw [lend_ne x y _ hyx, hid_yes hh]; rfl)
    have kpy : ∀ (β : Type) (y : Var αs β), y.idx ≠ x.idx → (y.rt Γ).fix = true → y.get s' = y.get s := fun β y hyx hf => by
      cases hh : (y.rt Γ).hold with
      | true => exact kph β y hyx hh
      | false => exact kp β y (by rw [lend_ne x y _ hyx, hid_no hh]; exact hf)
    refine ⟨fun a => if o a = some x.idx then none else G' a, fun a => if o a = some x.idx then some x.idx else if hd a then o a else o' a, ?_, exg, exi, Var.split x (fun _ => kpx) kpy, fun B tB a hb => ?_⟩
    · refine ⟨k.g.trans exg, fun a ob e => ?_, fun a nm h0 g0 => ?_, fun a ob nm h0 => ?_, fun a h0 => ?_, fun a ob h0 i => k'.imm a ob (k.imm a ob h0 i) i, fun a ha => ?_, k'.len, Var.split x ?_ fun β y hyx z hz => ?_⟩
      · by_cases h : o a = some x.idx
        · simp [h] at e
        · simp only [h, if_false] at e; exact k'.gh a ob e
      · by_cases h : o a = some x.idx
        · simp [h]
        · simp only [h, if_false]
          refine k'.new a (fun z => ?_) (k.dom a h0) (by simp only [h, if_false]; exact k.new a nm h0 g0)
          rcases (k.own a z.1.1).2.2 with q | q
          · exact nm q
          · exact h0 q
      · refine k'.fr a ob (fun z => ?_) (k.fr a ob nm h0)
        rcases (k.own a z.1.1).2.2 with q | q
        · exact nm q
        · rw [q] at h0; cases h0
      · exact k'.dom a (k.dom a h0)
      · by_cases h : o a = some x.idx
        · obtain ⟨ob, _, h2, _, h4⟩ := S1 a h
          exact ⟨by simp [h], ⟨ob, h2, h4⟩, (k.own a (by rw [h]; simp)).2.2⟩
        · simp only [h, if_false] at ha
          by_cases q : hd a
          · obtain ⟨ob, _, h2, h3, _, h4⟩ := S2 a q
            exact ⟨by simp only [h, if_false]; exact h3, ⟨ob, h2, h4⟩, (k.own a (ho a q)).2.2⟩
          · simp only [q, if_false] at ha
            obtain ⟨h1, h2, h3⟩ := k'.own a ha
            exact ⟨by simp only [h, if_false]; exact h1, h2, back a h3⟩
      · intro z hz
        rw [kpx] at hz
        obtain ⟨v, e, r⟩ := k.sl α x z hz
        refine ⟨v, e, (x.rt Γ).wid ((x.rt Γ).grow r exg fun a ha => ?_) fun a ha => ?_⟩
        · obtain ⟨ob, h1, h2, _⟩ := S1 a ha
          rw [h1, h2]
        · have ha' : o a = some x.idx := ha
          simp [ha']
      · cases hh : (y.rt Γ).hold with
        | true =>
          rw [kph β y hyx hh] at hz
          obtain ⟨v, e, r⟩ := k.sl β y z hz
          refine ⟨v, e, (y.rt Γ).wid ((y.rt Γ).grow r exg fun a ha => ?_) fun a ha => ?_⟩
          · have ha' : o a = some y.idx := ha
            obtain ⟨ob, h1, h2, _⟩ := S2 a ((hy β y a ha' hyx).mpr hh)
            rw [h1, h2]
          · have ha' : o a = some y.idx := ha
            have q := (hy β y a ha' hyx).mpr hh
            show (if o a = some x.idx then some x.idx else if hd a then o a else o' a) = some y.idx
            rw [if_neg (hx a q), if_pos q]; exact ha'
        | false =>
          cases hf : (y.rt Γ).fix with
          | true =>
            rw [kpy β y hyx hf] at hz
            obtain ⟨v, e, r⟩ := k.sl β y z hz
            exact ⟨v, e, (cpy_of hf _ _ _ _ _).mpr ((y.rt Γ).smono ((cpy_of hf _ _ _ _ _).mp r) exg)⟩
          | false =>
            obtain ⟨v, e, r⟩ := k'.sl β y z hz
            rw [lend_ne x y _ hyx, hid_no hh] at r
            refine ⟨v, e, (y.rt Γ).wid (lin_of hf hh _ _ _ _ _ _ r exi) fun a ha => ?_⟩
            have ha' : o' a = some y.idx := ha
            show (if o a = some x.idx then some x.idx else if hd a then o a else o' a) = some y.idx
            rw [if_neg (nS a _ ha'), if_neg (nS2 a _ ha')]; exact ha'
    · obtain ⟨h1, h2, h3, h4⟩ := tB a hb
      have h : o a ≠ some x.idx := fun h => by
        obtain ⟨ob', _, _, h3, _⟩ := S1 a h
        rw [h2] at h3; cases h3
      have q : ¬ hd a := fun q => by
        rcases h4 with z | z
        · exact z.2 q
        · obtain ⟨ob, h5, _⟩ := S2 a q
          have z' : H a = none := z
          rw [h5] at z'; cases z'
      exact ⟨by simp only [h, q, if_false]; exact h1, by simp only [h, if_false]; exact h2, h3, back a h4⟩
theorem XE.borrow {m : M αs β} {α : Type} (x : Var αs α) (h : XE X (lend x Γ) e R m) (hR : Lin R) : XE X Γ e R m := by
  intro C s σ G H o k z s' hm Q q
  obtain ⟨C', G1, o1, k1, e1, back⟩ := k.borrow x
  refine h C' s σ G1 H o1 k1 z s' hm Q fun v G' H' o' B k' e' kp r t => ?_
  obtain ⟨G2, o2, k2, e2, ei, kp2, tb⟩ := back s' G' H' o' k' e' kp
  exact q v G2 H' o2 B k2 e2 kp2 (hR _ _ _ _ _ _ r ei) (tb B t)
theorem XT.borrow {m : M αs Bool} {α : Type} (x : Var αs α) (h : XT X (lend x Γ) e m) : XT X Γ e m := by
  intro C s σ G H o k z s' hm Q q
  obtain ⟨C', G1, o1, k1, e1, back⟩ := k.borrow x
  refine h C' s σ G1 H o1 k1 z s' hm Q fun G' H' o' k' e' kp => ?_
  obtain ⟨G2, o2, k2, e2, ei, kp2, tb⟩ := back s' G' H' o' k' e' kp
  exact q G2 H' o2 k2 e2 kp2
end
end Sm
namespace Sm
open PySem PySem.Spec L2
open Enc (enc)
/-- a function that nobody unfolds -/
noncomputable def Seal {α : Type} (a : α) : { b : α // b = a } := Classical.choice ⟨⟨a, rfl⟩⟩
def iadd (i j : Int) : Option Int := some (i + j)
def isub (i j : Int) : Option Int := some (i - j)
noncomputable def imul : Int → Int → Option Int := (Seal fun (i j : Int) => if (-(2 ^ 64) < i ∧ i < 2 ^ 64) ∨ (-(2 ^ 64) < j ∧ j < 2 ^ 64) then some (i * j) else none).1
theorem imul_eq (i j : Int) : imul i j = if (-(2 ^ 64) < i ∧ i < 2 ^ 64) ∨ (-(2 ^ 64) < j ∧ j < 2 ^ 64) then some (i * j) else none := by unfold imul; rw [(Seal _).2]
noncomputable def imod : Int → Int → Option Int := (Seal fun (i j : Int) => if 0 < j then some (i % j) else none).1
theorem imod_eq (i j : Int) : imod i j = if 0 < j then some (i % j) else none := by unfold imod; rw [(Seal _).2]
noncomputable def idiv : Int → Int → Option Int := (Seal fun (i j : Int) => if 0 < j ∧ j < 1073741824 then some (i / j) else none).1
theorem idiv_eq (i j : Int) : idiv i j = if 0 < j ∧ j < 1073741824 then some (i / j) else none := by unfold idiv; rw [(Seal _).2]
noncomputable def ipow : Int → Int → Option Int := (Seal fun (i j : Int) => if 0 ≤ j ∧ j ≤ 1000000 ∧ i.natAbs < 2 ^ 64 then some (i ^ j.toNat) else none).1
theorem ipow_eq (i j : Int) : ipow i j = if 0 ≤ j ∧ j ≤ 1000000 ∧ i.natAbs < 2 ^ 64 then some (i ^ j.toNat) else none := by unfold ipow; rw [(Seal _).2]
def ineg (i : Int) : Option Int := some (-i)
noncomputable def ilt : Int → Int → Option Bool := (Seal fun (i j : Int) => some (decide (i < j))).1
theorem ilt_eq (i j : Int) : ilt i j = some (decide (i < j)) := by unfold ilt; rw [(Seal _).2]
noncomputable def ile : Int → Int → Option Bool := (Seal fun (i j : Int) => some (decide (i ≤ j))).1
theorem ile_eq (i j : Int) : ile i j = some (decide (i ≤ j)) := by unfold ile; rw [(Seal _).2]
noncomputable def igt : Int → Int → Option Bool := (Seal fun (i j : Int) => some (decide (j < i))).1
theorem igt_eq (i j : Int) : igt i j = some (decide (j < i)) := by unfold igt; rw [(Seal _).2]
noncomputable def ige : Int → Int → Option Bool := (Seal fun (i j : Int) => some (decide (j ≤ i))).1
theorem ige_eq (i j : Int) : ige i j = some (decide (j ≤ i)) := by unfold ige; rw [(Seal _).2]
def ieq {α : Type} [DecidableEq α] (x y : α) : Option Bool := some (decide (x = y))
def ine {α : Type} [DecidableEq α] (x y : α) : Option Bool := some (!decide (x = y))
def isin {α : Type} [DecidableEq α] (x : α) (xs : List α) : Option Bool := some (decide (x ∈ xs))
def notin {α : Type} [DecidableEq α] (x : α) (xs : List α) : Option Bool := some (!decide (x ∈ xs))
noncomputable def idx {α : Type} : List α → Int → Option α := (Seal fun (xs : List α) (i : Int) => atI xs i).1
theorem idx_eq {α : Type} (xs : List α) (i : Int) : idx xs i = atI xs i := by unfold idx; rw [(Seal _).2]
def ilen {α : Type} (xs : List α) : Option Int := some (xs.length : Int)
def idt {α : Type} (x : α) : Option α := some x
def fst' {α β : Type} (x : α × β) : Option α := some x.1
def snd' {α β : Type} (x : α × β) : Option β := some x.2
def pair {α β : Type} (x : α) (y : β) : Option (α × β) := some (x, y)
def imax (i j : Int) : Option Int := some (if j > i then j else i)
def imin (i j : Int) : Option Int := some (if j < i then j else i)
def bnot (b : Bool) : Option Bool := some (!b)
def copyl {α : Type} (xs : List α) : Option (List α) := some xs
def indexOf {α : Type} [DecidableEq α] (xs : List α) (x : α) : Option Int := Option.map (fun (n : Nat) => (n : Int)) (xs.findIdx? (· = x))
def cnt {α : Type} [DecidableEq α] (xs : List α) (x : α) : Option Int := some ((xs.filter (· = x)).length : Int)
section
variable {X : Cx} {αs : List Type} {Γ : RTs X.K αs} {α β γ : Type} {e a b c : Expr} {pos : Pos}
theorem dq_int {K : Fr} {G : Hp} {v : V} {i : Int} (h : Dq K G v (enc i)) : v = .int i := by
  have h' : Dq K G v (.int i) := h
  cases h'; rfl
theorem dq_bl {K : Fr} {G : Hp} {v : V} {i : Bool} (h : Dq K G v (enc i)) : v = .bl i := by
  have h' : Dq K G v (.bool i) := h
  cases h'; rfl
theorem dq_str {K : Fr} {G : Hp} {v : V} {i : Str} (h : Dq K G v (enc i)) : v = .str i := by
  have h' : Dq K G v (.str i) := h
  cases h'; rfl
theorem dq_list {K : Fr} {G : Hp} {v : V} [Enc α] {xs : List α} (h : Dq K G v (enc xs)) : ∃ p vs, v = .ref p ∧ G p = some (.lst vs) ∧ All2 (fun v x => Dq K G v (enc x)) vs xs := by
  have h' : Dq K G v (.list (xs.map enc)) := h
  cases h' with
  | lst h1 k => exact ⟨_, _, rfl, h1, dqAll_all2.mp k⟩
theorem dq_pair {K : Fr} {G : Hp} {v : V} [Enc α] [Enc β] {x : α × β} (h : Dq K G v (enc x)) : ∃ p a b, v = .ref p ∧ SqT K G p [a, b] ∧ Dq K G a (enc x.1) ∧ Dq K G b (enc x.2) := by
  have h' : Dq K G v (.tuple [enc x.1, enc x.2]) := h
  cases h' with
  | tup h k =>
    cases k with
    | cons k1 k =>
      cases k with
      | cons k2 k => cases k; exact ⟨_, _, _, rfl, h, k1, k2⟩
theorem dq_t3 {K : Fr} {G : Hp} {v : V} [Enc α] [Enc β] [Enc γ] {x : T3 α β γ} (h : Dq K G v (enc x)) : ∃ p a b c, v = .ref p ∧ SqT K G p [a, b, c] ∧ Dq K G a (enc x.a) ∧ Dq K G b (enc x.b) ∧ Dq K G c (enc x.c) := by
  have h' : Dq K G v (.tuple [enc x.a, enc x.b, enc x.c]) := h
  cases h' with
  | tup h k =>
    cases k with
    | cons k1 k =>
      cases k with
      | cons k2 k =>
        cases k with
        | cons k3 k => cases k; exact ⟨_, _, _, _, rfl, h, k1, k2, k3⟩
/-- the value may be shared at once: nothing new -/
theorem here {Q : VK} [Enc β] {G H : Hp} {w : V} {z : β} (e : Ex G H) (h : Dq X.K G w (enc z)) (q : ∀ w G' H' B, Al G H G' H' → (RT.dat X.K β).rel G' H' w z B → NewB G H G' H' B → Q w H') : Q w H :=
  q w G H (fun _ => False) (.refl e) h newB0
theorem XE.int {i : Int} {j} : XE X Γ (.Constant (.int i) j pos) (RT.dat X.K Int) (mC i) := .leaf pe_int fun _ G H Q e q => here (z := i) e (.int i) q
theorem XE.bl {i : Bool} {j} : XE X Γ (.Constant (.bool i) j pos) (RT.dat X.K Bool) (mC i) := .leaf pe_bl fun _ G H Q e q => here (z := i) e (.bl i) q
theorem XE.str {i : Str} {j} : XE X Γ (.Constant (.str i) j pos) (RT.dat X.K Str) (mC i) := .leaf pe_str fun _ G H Q e q => here (z := i) e (.str i) q
theorem XE.non {j} : XE X Γ (.Constant .none j pos) (RT.dat X.K Unit) (mC ()) := .leaf pe_non fun _ G H Q e q => here (z := ()) e .non q
theorem XE.name {x : Var αs β} {n : Str} {R : RT X.K β} (hpe : PE X (.Name n pos) (tVar x.idx)) (hr : x.rt Γ = R) (hc : R.fix = true) : XE X Γ (.Name n pos) R (mV x) :=
  .var hpe (by rw [hr]; exact hc) hc fun G v y h => by rw [hr] at h; exact h
section
variable {ma mb : M αs Int} {op : Operator}
theorem XE.opI0 {g : Int → Int → Int} {f : Int → Int → Option Int} (ho : OpR X (binaryOp op) (rI0 fun i j => .int (g i j))) (hf : ∀ i j z, f i j = some z → z = g i j) (ha : XE X Γ a (RT.dat X.K Int) ma) (hb : XE X Γ b (RT.dat X.K Int) mb) : XE X Γ (.BinOp a op b pos) (RT.dat X.K Int) (m2 f ma mb) :=
  .bin (r := rI0 fun i j => .int (g i j)) (pe_op ho pe_w pe_w) ha hb rfl rfl fun G H v u x y z Q e hx hy hz q => by
    cases dq_int hx; cases dq_int hy; cases hf _ _ _ hz
    exact ⟨x, y, rfl, rfl, here (z := g x y) e (.int _) q⟩
theorem XE.opI {Cn : Int → Int → Prop} {g : Int → Int → Int} {f : Int → Int → Option Int} (ho : OpR X (binaryOp op) (rI Cn fun i j => .int (g i j))) (hf : ∀ i j z, f i j = some z → Cn i j ∧ z = g i j) (ha : XE X Γ a (RT.dat X.K Int) ma) (hb : XE X Γ b (RT.dat X.K Int) mb) : XE X Γ (.BinOp a op b pos) (RT.dat X.K Int) (m2 f ma mb) :=
  .bin (r := rI Cn fun i j => .int (g i j)) (pe_op ho pe_w pe_w) ha hb rfl rfl fun G H v u x y z Q e hx hy hz q => by
    cases dq_int hx; cases dq_int hy
    obtain ⟨hc, rfl⟩ := hf _ _ _ hz
    exact ⟨x, y, rfl, rfl, hc, here (z := g x y) e (.int _) q⟩
theorem XE.add (ha : XE X Γ a (RT.dat X.K Int) ma) (hb : XE X Γ b (RT.dat X.K Int) mb) : XE X Γ (.BinOp a .Add b pos) (RT.dat X.K Int) (m2 iadd ma mb) := .opI0 op_add (fun _ _ _ h => (Option.some.inj h).symm) ha hb
theorem XE.sub (ha : XE X Γ a (RT.dat X.K Int) ma) (hb : XE X Γ b (RT.dat X.K Int) mb) : XE X Γ (.BinOp a .Sub b pos) (RT.dat X.K Int) (m2 isub ma mb) := .opI0 op_sub (fun _ _ _ h => (Option.some.inj h).symm) ha hb
theorem ite_some {c : Prop} [Decidable c] {α : Type} {a z : α} (h : (if c then some a else none) = some z) : c ∧ z = a := by
  by_cases hc : c
  · rw [if_pos hc] at h; exact ⟨hc, (Option.some.inj h).symm⟩
  · rw [if_neg hc] at h; cases h
theorem XE.mul (ha : XE X Γ a (RT.dat X.K Int) ma) (hb : XE X Γ b (RT.dat X.K Int) mb) : XE X Γ (.BinOp a .Mult b pos) (RT.dat X.K Int) (m2 imul ma mb) := .opI op_mul (fun _ _ _ h => by rw [imul_eq] at h; have t := ite_some h; exact t) ha hb
theorem XE.mod (ha : XE X Γ a (RT.dat X.K Int) ma) (hb : XE X Γ b (RT.dat X.K Int) mb) : XE X Γ (.BinOp a .Mod b pos) (RT.dat X.K Int) (m2 imod ma mb) := .opI op_mod (fun _ _ _ h => by rw [imod_eq] at h; have t := ite_some h; exact t) ha hb
theorem XE.fdiv (ha : XE X Γ a (RT.dat X.K Int) ma) (hb : XE X Γ b (RT.dat X.K Int) mb) : XE X Γ (.BinOp a .FloorDiv b pos) (RT.dat X.K Int) (m2 idiv ma mb) := .opI op_fdiv (fun _ _ _ h => by rw [idiv_eq] at h; have t := ite_some h; exact t) ha hb
theorem XE.pow (ha : XE X Γ a (RT.dat X.K Int) ma) (hb : XE X Γ b (RT.dat X.K Int) mb) : XE X Γ (.BinOp a .Pow b pos) (RT.dat X.K Int) (m2 ipow ma mb) := .opI op_pow (fun _ _ _ h => by rw [ipow_eq] at h; have t := ite_some h; exact t) ha hb
end
/-- a comparison -/
def XC (X : Cx) {αs : List Type} (Γ : RTs X.K αs) (op : CmpOp) (a b : Expr) (m : M αs Bool) : Prop :=
  behindInMarks op b = false ∧ ∃ r : R2, OpR X (compareOp op) r ∧ ∀ (C : C0) (s : Env αs) (σ : L2.St) (G H : Hp) (o : Addr → Option Nat), Ok C Γ s σ G H o → ∀ (z : Bool) (s' : Env αs), m s = some (z, s') → ∀ Q : VK,
    (∀ (G' H' : Hp) (o' : Addr → Option Nat), Ok C Γ s' σ G' H' o' → Ex G G' → Kp Γ s s' → Q (.bl z) H') → tOp r (wE X a) (wE X b) σ H Q
theorem XC.bin {op : CmpOp} {Ra : RT X.K α} {Rb : RT X.K γ} {ma : M αs α} {mb : M αs γ} {r : R2} {f : α → γ → Option Bool} (ho : OpR X (compareOp op) r) (hm : behindInMarks op b = false) (ha : XE X Γ a Ra ma) (hb : XE X Γ b Rb mb)
    (hca : Ra.fix = true) (hcb : Rb.fix = true) (hr : ∀ (G H : Hp) (v u : V) (x : α) (y : γ) (z : Bool) (Q : VK), Ex G H → Ra.shr G v x → Rb.shr G u y → f x y = some z → Q (.bl z) H → r v u H Q) : XC X Γ op a b (m2 f ma mb) := by
  refine ⟨hm, r, ho, fun C s σ G H o k z s' hm Q q => ?_⟩
  obtain ⟨x, s1, y, h1, h2, h3⟩ := m2E hm
  refine ha C s σ G H o k x s1 h1 _ fun v G1 H1 o1 B k1 g1 kp r1 t1 => ?_
  refine hb C s1 σ G1 H1 o1 k1 y s' h2 _ fun u G2 H2 o2 B' k2 g2 kp2 r2 t2 => ?_
  exact hr G2 H2 v u x y z Q k2.gh (Ra.smono ((cpy_of hca _ _ _ _ _).mp r1) g2) ((cpy_of hcb _ _ _ _ _).mp r2) h3 (q G2 H2 o2 k2 (g1.trans g2) (kp.trans kp2))
theorem XE.ofC {m : M αs Bool} {op : CmpOp} (h : XC X Γ op a b m) : XE X Γ (.Compare a [op] [b] pos) (RT.dat X.K Bool) m := by
  obtain ⟨hb, r, ho, h⟩ := h
  intro C s σ G H o k z s' hm Q q
  exact wE_of (pe_cmpR ho pe_w pe_w hb) (h C s σ G H o k z s' hm Q fun G1 H1 o1 k1 g1 kp => q _ G1 H1 o1 (fun _ => False) k1 g1 kp (show Dq X.K G1 (.bl z) (.bool z) from .bl _) tmp0)
theorem XT.ofC {m : M αs Bool} {op : CmpOp} (h : XC X Γ op a b m) : XT X Γ (.Compare a [op] [b] pos) m := by
  obtain ⟨hb, r, ho, h⟩ := h
  intro C s σ G H o k z s' hm Q q
  exact wT_of (pt_cmpR ho pe_w pe_w hb) (h C s σ G H o k z s' hm _ fun G1 H1 o1 k1 g1 kp => ⟨z, rfl, q G1 H1 o1 k1 g1 kp⟩)
section
variable {ma mb : M αs Int}
theorem XC.cmpI {cop : CmpOp} {g : Int → Int → Bool} {f : Int → Int → Option Bool} (ho : OpR X (compareOp cop) (rI0 fun i j => .bl (g i j))) (hm : behindInMarks cop b = false) (hf : ∀ i j z, f i j = some z → z = g i j) (ha : XE X Γ a (RT.dat X.K Int) ma) (hb : XE X Γ b (RT.dat X.K Int) mb) :
    XC X Γ cop a b (m2 f ma mb) :=
  .bin (r := rI0 fun i j => .bl (g i j)) ho hm ha hb rfl rfl fun G H v u x y z Q e hx hy hz q => by
    cases dq_int hx; cases dq_int hy; cases hf _ _ _ hz
    exact ⟨x, y, rfl, rfl, q⟩
theorem XC.lt (ha : XE X Γ a (RT.dat X.K Int) ma) (hb : XE X Γ b (RT.dat X.K Int) mb) : XC X Γ .Lt a b (m2 ilt ma mb) := .cmpI op_lt (nobehind _ (by decide) (by decide)) (fun _ _ _ h => by rw [ilt_eq] at h; exact (Option.some.inj h).symm) ha hb
theorem XC.le (ha : XE X Γ a (RT.dat X.K Int) ma) (hb : XE X Γ b (RT.dat X.K Int) mb) : XC X Γ .LtE a b (m2 ile ma mb) := .cmpI op_le (nobehind _ (by decide) (by decide)) (fun _ _ _ h => by rw [ile_eq] at h; exact (Option.some.inj h).symm) ha hb
theorem XC.gt (ha : XE X Γ a (RT.dat X.K Int) ma) (hb : XE X Γ b (RT.dat X.K Int) mb) : XC X Γ .Gt a b (m2 igt ma mb) := .cmpI op_gt (nobehind _ (by decide) (by decide)) (fun _ _ _ h => by rw [igt_eq] at h; exact (Option.some.inj h).symm) ha hb
theorem XC.ge (ha : XE X Γ a (RT.dat X.K Int) ma) (hb : XE X Γ b (RT.dat X.K Int) mb) : XC X Γ .GtE a b (m2 ige ma mb) := .cmpI op_ge (nobehind _ (by decide) (by decide)) (fun _ _ _ h => by rw [ige_eq] at h; exact (Option.some.inj h).symm) ha hb
end
/-- what is compared deeply -/
theorem XC.eq [Enc α] [DecidableEq α] [EqE α] [Lay α] {ma mb : M αs α} (ha : XE X Γ a (RT.dat X.K α) ma) (hb : XE X Γ b (RT.dat X.K α) mb) (hu : X.A.units + 65 < cLine) (hd : Lay.dep α ≤ 64 := by decide) : XC X Γ .Eq a b (m2 ieq ma mb) :=
  .bin (r := rEqD X.K) (op_eqD (by omega)) (nobehind _ (by decide) (by decide)) ha hb rfl rfl fun G H v u x y z Q e hx hy hz q => by
    cases hz
    refine ⟨enc x, enc y, dq_dp (dq_mono e hx) (Lay.lay x), dq_dp (dq_mono e hy) (Lay.lay y), shaped_enc hd x, shaped_enc hd y, ?_⟩
    rw [EqE.eqv]
    exact q
theorem XC.ne [Enc α] [DecidableEq α] [EqE α] [Lay α] {ma mb : M αs α} (ha : XE X Γ a (RT.dat X.K α) ma) (hb : XE X Γ b (RT.dat X.K α) mb) (hu : X.A.units + 65 < cLine) (hd : Lay.dep α ≤ 64 := by decide) : XC X Γ .NotEq a b (m2 ine ma mb) :=
  .bin (r := rNeD X.K) (op_neD (by omega)) (nobehind _ (by decide) (by decide)) ha hb rfl rfl fun G H v u x y z Q e hx hy hz q => by
    cases hz
    refine ⟨enc x, enc y, dq_dp (dq_mono e hx) (Lay.lay x), dq_dp (dq_mono e hy) (Lay.lay y), shaped_enc hd x, shaped_enc hd y, ?_⟩
    rw [EqE.eqv]
    exact q
theorem any_eqv [Enc α] [DecidableEq α] [EqE α] (x : α) : ∀ xs : List α, ((xs.map enc).any fun z => PyData.eqv z (enc x)) = decide (x ∈ xs)
  | [] => by simp
  | y :: ys => by
    rw [List.map_cons, List.any_cons, any_eqv x ys, EqE.eqv]
    by_cases h : y = x
    · subst h; simp
    · have h' : ¬ x = y := fun e => h e.symm
      simp [h, h']
theorem XC.isin [Enc α] [DecidableEq α] [EqE α] [Lay α] {ma : M αs α} {mb : M αs (List α)} (ha : XE X Γ a (RT.dat X.K α) ma) (hb : XE X Γ b (RT.dat X.K (List α)) mb) (hu : X.A.units + 65 < cLine) (hm : behindInMarks .In b = false := by rfl) (hd : Lay.dep α + 1 ≤ 64 := by decide) :
    XC X Γ .In a b (m2 isin ma mb) :=
  .bin (r := rInD X.K) (op_inD hu) hm ha hb rfl rfl fun G H v u x y z Q e hx hy hz q => by
    cases hz
    refine ⟨enc x, y.map enc, dq_dp (dq_mono e hx) (Lay.lay x), dq_dp (dq_mono e hy) (Lay.lay y), shaped_enc (Nat.le_of_succ_le hd) x, shaped_enc (α := List α) hd y, ?_⟩
    rw [any_eqv]
    exact q
theorem XC.notin [Enc α] [DecidableEq α] [EqE α] [Lay α] {ma : M αs α} {mb : M αs (List α)} (ha : XE X Γ a (RT.dat X.K α) ma) (hb : XE X Γ b (RT.dat X.K (List α)) mb) (hu : X.A.units + 65 < cLine) (hm : behindInMarks .NotIn b = false := by rfl) (hd : Lay.dep α + 1 ≤ 64 := by decide) :
    XC X Γ .NotIn a b (m2 notin ma mb) :=
  .bin (r := rNotInD X.K) (op_notInD hu) hm ha hb rfl rfl fun G H v u x y z Q e hx hy hz q => by
    cases hz
    refine ⟨enc x, y.map enc, dq_dp (dq_mono e hx) (Lay.lay x), dq_dp (dq_mono e hy) (Lay.lay y), shaped_enc (Nat.le_of_succ_le hd) x, shaped_enc (α := List α) hd y, ?_⟩
    rw [any_eqv]
    exact q
/-- i < j < k and its like -/
def chn (f g : Int → Int → Option Bool) (m n l : M αs Int) : M αs Bool := fun s => (m s).bind fun p => (n p.2).bind fun q => (f p.1 q.1).bind fun c => if c = true then (l q.2).bind fun r => (g q.1 r.1).bind fun d => some (d, r.2) else some (false, q.2)
theorem all2_at {P : V → α → Prop} {vs : List V} {xs : List α} {i : Int} {y : α} (h : All2 P vs xs) (e : atI xs i = some y) : ∃ v, atI vs i = some v ∧ P v y := by
  unfold atI at e ⊢
  obtain ⟨j, h1, h2⟩ := bindE e
  rw [h.len, h1]
  exact h.get h2
theorem XE.idx [Enc α] {ma : M αs (List α)} {mb : M αs Int} (ha : XE X Γ a (RT.dat X.K (List α)) ma) (hb : XE X Γ b (RT.dat X.K Int) mb) (hs : PlainIx b := by exact fun _ _ => rfl) : XE X Γ (.Subscript a b pos) (RT.dat X.K α) (m2 idx ma mb) :=
  .bin (r := rIxL X.K) (pe_ix ix_list pe_w pe_w hs) ha hb rfl rfl fun G H v u x y z Q e hx hy hz q => by
    obtain ⟨p, vs, rfl, hp, k⟩ := dq_list hx
    cases dq_int hy
    obtain ⟨w, h1, h2⟩ := all2_at k ((idx_eq _ _).symm.trans hz)
    exact ⟨p, vs, y, w, rfl, rfl, SqL.of (e _ _ hp), h1, here (z := z) e h2 q⟩
theorem XE.fst [Enc α] [Enc β] {ma : M αs (α × β)} {j} {p2 : Pos} (ha : XE X Γ a (RT.dat X.K (α × β)) ma) : XE X Γ (.Subscript a (.Constant (.int 0) j p2) pos) (RT.dat X.K α) (m1 fst' ma) :=
  .un (r := fun v H Q => rIxT X.K v (.int 0) H Q) (pe_ix ix_tup pe_w pe_int fun _ _ => rfl) ha rfl fun G H v x z Q e hx hz q => by
    cases hz
    obtain ⟨p, v1, v2, rfl, hp, h1, h2⟩ := dq_pair hx
    exact ⟨p, [v1, v2], 0, v1, rfl, rfl, e.t hp, rfl, here (z := x.1) e h1 q⟩
theorem XE.snd [Enc α] [Enc β] {ma : M αs (α × β)} {j} {p2 : Pos} (ha : XE X Γ a (RT.dat X.K (α × β)) ma) : XE X Γ (.Subscript a (.Constant (.int 1) j p2) pos) (RT.dat X.K β) (m1 snd' ma) :=
  .un (r := fun v H Q => rIxT X.K v (.int 1) H Q) (pe_ix ix_tup pe_w pe_int fun _ _ => rfl) ha rfl fun G H v x z Q e hx hz q => by
    cases hz
    obtain ⟨p, v1, v2, rfl, hp, h1, h2⟩ := dq_pair hx
    exact ⟨p, [v1, v2], 1, v2, rfl, rfl, e.t hp, rfl, here (z := x.2) e h2 q⟩
theorem XE.pair [Enc α] [Enc β] {ma : M αs α} {mb : M αs β} {k : Nat} (ha : XE X Γ a (RT.dat X.K α) ma) (hb : XE X Γ b (RT.dat X.K β) mb) (hp : PA X [a, b] (tCons (wE X a) (tCons (wE X b) tNil)) := by exact pa_cons pe_w (pa_cons pe_w pa_nil (star_cons rfl)) (star_cons rfl)) : XE X Γ (.Tuple [a, b] k pos) (RT.dat X.K (α × β)) (m2 pair ma mb) :=
  .bin (r := fun v u H Q => 2 ≤ sizeLine ∧ ∀ p, H p = none → Q (.ref p) (upd H p (.tup [v, u]))) (pe_tup hp) ha hb rfl rfl fun G H v u x y z Q e hx hy hz q => by
    cases hz
    refine ⟨by decide, fun p hp => ?_⟩
    have al := Al.kn e (o := .tup [v, u]) hp
    exact q _ _ _ (fun _ => False) al (show Dq X.K _ _ (.tuple [enc x, enc y]) from .tup (SqT.of upd_same) (.cons (dq_mono al.g hx) (.cons (dq_mono al.g hy) .nil))) newB0
/-- a row of expressions of one kind -/
def XL (X : Cx) {αs : List Type} (Γ : RTs X.K αs) (es : List Expr) {α : Type} [Enc α] (m : M αs (List α)) : Prop :=
  ∀ (C : C0) (s : Env αs) (σ : L2.St) (G H : Hp) (o : Addr → Option Nat), Ok C Γ s σ G H o → ∀ (x : List α) (s' : Env αs), m s = some (x, s') → ∀ Q : List V → Hp → Prop,
    (∀ (vs : List V) (G' H' : Hp) (o' : Addr → Option Nat), Ok C Γ s' σ G' H' o' → Ex G G' → Kp Γ s s' → All2 (fun v x => Dq X.K G' v (enc x)) vs x → Q vs H') → wA X es σ H Q
theorem XL.nil [Enc α] : XL X Γ [] (mC ([] : List α)) := by
  intro C s σ G H o k x s' hm Q q
  cases hm
  exact wA_of pa_nil (q [] G H o k (Ex.refl _) .refl trivial)
def consO {α : Type} (x : α) (xs : List α) : Option (List α) := some (x :: xs)
theorem XL.cons [Enc α] {es : List Expr} {ma : M αs α} {ml : M αs (List α)} (ha : XE X Γ e (RT.dat X.K α) ma) (hl : XL X Γ es ml) (hs : starEach (e :: es) X.env = (false, eval e X.env) :: starEach es X.env := by exact star_cons rfl) : XL X Γ (e :: es) (m2 consO ma ml) := by
  intro C s σ G H o k z s' hm Q q
  obtain ⟨x, s1, xs, h1, h2, h3⟩ := m2E hm
  cases h3
  refine wA_of (pa_cons pe_w pa_w hs) ?_
  refine ha C s σ G H o k x s1 h1 _ fun v G1 H1 o1 B k1 g1 kp r1 t1 => ?_
  refine hl C s1 σ G1 H1 o1 k1 xs s' h2 _ fun vs G2 H2 o2 k2 g2 kp2 r2 => ?_
  exact q _ G2 H2 o2 k2 (g1.trans g2) (kp.trans kp2) ⟨dq_mono g2 r1, r2⟩
noncomputable def lstO {α : Type} : List α → Option (List α) := (Seal fun (xs : List α) => if xs.length ≤ 1000000 then some xs else none).1
theorem lstO_eq {α : Type} (xs : List α) : lstO xs = if xs.length ≤ 1000000 then some xs else none := by unfold lstO; rw [(Seal _).2]
theorem XE.lst [Enc α] [PureE α] {es : List Expr} {ml : M αs (List α)} (hl : XL X Γ es ml) : XE X Γ (.List es pos) (RT.own X.K α) (m1 lstO ml) := by
  intro C s σ G H o k z s' hm Q q
  obtain ⟨xs, h1, h2⟩ := m1E hm
  rw [lstO_eq] at h2
  obtain ⟨hz, rfl⟩ := ite_some h2
  refine wE_of (pe_lst pa_w) ?_
  refine hl C s σ G H o k _ s' h1 _ fun vs G1 H1 o1 k1 g1 kp r1 => ?_
  refine ⟨by rw [r1.len]; exact Nat.le_trans hz (by decide), fun p hp => ?_⟩
  have al := Al.my k1.gh (o := .lst vs) hp
  refine q (.ref p) G1 _ o1 (fun a => a = p) (k1.al al) g1 kp ⟨p, vs, rfl, rfl, upd_same, r1⟩ (NewB.tmp k1 fun a ha => ?_)
  subst ha
  refine ⟨hp, ?_, _, upd_same, rfl⟩
  cases h : G1 a with
  | none => rfl
  | some u => rw [k1.gh a u h] at hp; cases hp
section
variable {x : Str} {p : Pos}
theorem XE.len [Enc α] {ma : M αs (List α)} (hg : Gl X "len") (hm : X.mg "len" = none) (ha : XE X Γ a (RT.dat X.K (List α)) ma)
    (he : starEach [a] X.env = [(false, eval a X.env)] := by exact star1 rfl) : XE X Γ (.Call (.Name "len" p) [a] [] pos) (RT.dat X.K Int) (m1 ilen ma) :=
  .un (r := fun v H Q => ∃ p ys, [v] = [V.ref p] ∧ (SqL X.K H p ys ∨ SqT X.K H p ys) ∧ Q (.int ys.length) H) (pe_callB call_len_seq hg hm PySem.boot_len (pa_cons pe_w pa_nil he) (he := he)) ha rfl fun G H v x z Q e hx hz q => by
    cases hz
    obtain ⟨p, vs, rfl, hp, k⟩ := dq_list hx
    exact ⟨p, vs, rfl, .inl (SqL.of (e _ _ hp)), by rw [k.len]; exact here (z := (x.length : Int)) e (.int _) q⟩
theorem XE.list [Enc α] [PureE α] {ma : M αs (List α)} (hg : Gl X "list") (hm : X.mg "list" = none) (ha : XE X Γ a (RT.dat X.K (List α)) ma)
    (he : starEach [a] X.env = [(false, eval a X.env)] := by exact star1 rfl) : XE X Γ (.Call (.Name "list" p) [a] [] pos) (RT.own X.K α) (m1 copyl ma) :=
  .un (r := fun v H Q => ∃ p ys, [v] = [V.ref p] ∧ (SqL X.K H p ys ∨ SqT X.K H p ys) ∧ ∀ l, H l = none → Q (.ref l) (upd H l (.lst ys))) (pe_callTy call_list_of hg hm (by decide +kernel) (pa_cons pe_w pa_nil he) (he := he)) ha rfl fun G H v x z Q e hx hz q => by
    cases hz
    obtain ⟨p, vs, rfl, hp, k⟩ := dq_list hx
    refine ⟨p, vs, rfl, .inl (SqL.of (e _ _ hp)), fun l hl => ?_⟩
    refine q (.ref l) G _ (fun a => a = l) (Al.my e hl) ⟨l, vs, rfl, rfl, upd_same, k⟩ fun a ha => ?_
    subst ha
    refine ⟨hl, ?_, _, upd_same, rfl⟩
    cases h : G a with
    | none => rfl
    | some u => rw [e a u h] at hl; cases hl
theorem XE.intOf {ma : M αs Int} (hg : Gl X "int") (hm : X.mg "int" = none) (ha : XE X Γ a (RT.dat X.K Int) ma)
    (he : starEach [a] X.env = [(false, eval a X.env)] := by exact star1 rfl) : XE X Γ (.Call (.Name "int" p) [a] [] pos) (RT.dat X.K Int) (m1 idt ma) :=
  .un (r := fun v H Q => (∃ i, [v] = [V.int i] ∧ Q (.int i) H) ∨ ∃ k, [v] = [V.bl k] ∧ Q (.int (if k then 1 else 0)) H) (pe_callTy call_int1 hg hm (by decide +kernel) (pa_cons pe_w pa_nil he) (he := he)) ha rfl fun G H v x z Q e hx hz q => by
    cases hz
    cases dq_int hx
    exact .inl ⟨x, rfl, here (z := x) e (.int _) q⟩
theorem XE.max2 {ma mb : M αs Int} (hc : X.calm = true) (hg : Gl X "max") (hm : X.mg "max" = none) (ha : XE X Γ a (RT.dat X.K Int) ma) (hb : XE X Γ b (RT.dat X.K Int) mb)
    (he : starEach [a, b] X.env = [(false, eval a X.env), (false, eval b X.env)] := by exact star2 rfl rfl) (he2 : starEach [b] X.env = [(false, eval b X.env)] := by exact star1 rfl) : XE X Γ (.Call (.Name "max" p) [a, b] [] pos) (RT.dat X.K Int) (m2 imax ma mb) :=
  .bin (r := fun v u H Q => ∃ i j, [v, u] = [V.int i, .int j] ∧ Q (.int (if j > i then j else i)) H) (pe_callB (call_max2 hc) hg hm (by decide +kernel) (pa_cons pe_w (pa_cons pe_w pa_nil he2) (by rw [he, he2])) (he := by rw [he, he2])
    (hpl := by rw [he2]; rfl)) ha hb rfl rfl fun G H v u x y z Q e hx hy hz q => by
    cases hz
    cases dq_int hx
    cases dq_int hy
    exact ⟨x, y, rfl, here (z := if y > x then y else x) e (.int _) q⟩
theorem XE.min2 {ma mb : M αs Int} (hc : X.calm = true) (hg : Gl X "min") (hm : X.mg "min" = none) (ha : XE X Γ a (RT.dat X.K Int) ma) (hb : XE X Γ b (RT.dat X.K Int) mb)
    (he : starEach [a, b] X.env = [(false, eval a X.env), (false, eval b X.env)] := by exact star2 rfl rfl) (he2 : starEach [b] X.env = [(false, eval b X.env)] := by exact star1 rfl) : XE X Γ (.Call (.Name "min" p) [a, b] [] pos) (RT.dat X.K Int) (m2 imin ma mb) :=
  .bin (r := fun v u H Q => ∃ i j, [v, u] = [V.int i, .int j] ∧ Q (.int (if j < i then j else i)) H) (pe_callB (call_min2 hc) hg hm (by decide +kernel) (pa_cons pe_w (pa_cons pe_w pa_nil he2) (by rw [he, he2])) (he := by rw [he, he2])
    (hpl := by rw [he2]; rfl)) ha hb rfl rfl fun G H v u x y z Q e hx hy hz q => by
    cases hz
    cases dq_int hx
    cases dq_int hy
    exact ⟨x, y, rfl, here (z := if y < x then y else x) e (.int _) q⟩
end
end
end Sm
namespace Sm
open PySem PySem.Spec L2
open Enc (enc)
section
variable {X : Cx} {αs : List Type} {Γ Γ1 Γ2 Γ' : RTs X.K αs} {α β γ ρ : Type} {e a b c : Expr} {pos : Pos}
theorem XT.val {m : M αs Bool} (h : XE X Γ e (RT.dat X.K Bool) m) (he : ∀ whole, isTrue e X.env whole = (do let v ← whole; standAt e.pos; holding [v] (truthy v)) := by intro _; rfl) : XT X Γ e m := by
  intro C s σ G H o k z s' hm Q q
  refine wT_of (pt_val pe_w he) ?_
  refine h C s σ G H o k z s' hm _ fun v G1 H1 o1 B k1 g1 kp r1 t1 => ?_
  cases dq_bl r1
  exact ⟨z, rfl, q G1 H1 o1 k1 g1 kp⟩
theorem XT.not {m : M αs Bool} (h : XT X Γ e m) : XT X Γ (.UnaryOp .Not e pos) (m1 bnot m) := by
  intro C s σ G H o k z s' hm Q q
  obtain ⟨x, h1, h2⟩ := m1E hm
  cases h2
  exact wT_of (pt_not pt_w) (h C s σ G H o k x s' h1 _ fun G1 H1 o1 k1 g1 kp => q G1 H1 o1 k1 g1 kp)
def mAnd (m n : M αs Bool) : M αs Bool := fun s => (m s).bind fun p => if p.1 = true then n p.2 else some (false, p.2)
def mOr (m n : M αs Bool) : M αs Bool := fun s => (m s).bind fun p => if p.1 = true then some (true, p.2) else n p.2
theorem XT.ofW {m : M αs Bool} (h : XW X Γ e m) : XT X Γ e m := fun C s σ G H o k z s' hm Q q => wT_of_W (h C s σ G H o k z s' hm Q q)
theorem XW.and1 {m : M αs Bool} (h : XT X Γ a m) : XW X Γ (.BoolOp .And [a] pos) m := fun C s σ G H o k z s' hm Q q => wW_of (pw_and1 pt_w) (h C s σ G H o k z s' hm Q q)
theorem XW.or1 {m : M αs Bool} (h : XT X Γ a m) : XW X Γ (.BoolOp .Or [a] pos) m := fun C s σ G H o k z s' hm Q q => wW_of (pw_or1 pt_w) (h C s σ G H o k z s' hm Q q)
theorem XW.and {m n : M αs Bool} {rest : List Expr} (ha : XT X Γ a m) (hb : XW X Γ (.BoolOp .And (b :: rest) pos) n) : XW X Γ (.BoolOp .And (a :: b :: rest) pos) (mAnd m n) := by
  intro C s σ G H o k z s' hm Q q
  obtain ⟨⟨x, s1⟩, h1, h2⟩ := bindE hm
  refine wW_of (pw_and pt_w pw_w) ?_
  refine ha C s σ G H o k x s1 h1 _ fun G1 H1 o1 k1 g1 kp => ?_
  cases x with
  | true => exact hb C s1 σ G1 H1 o1 k1 z s' h2 Q fun G2 H2 o2 k2 g2 kp2 => q G2 H2 o2 k2 (g1.trans g2) (kp.trans kp2)
  | false =>
    cases h2
    exact q G1 H1 o1 k1 g1 kp
theorem XW.or {m n : M αs Bool} {rest : List Expr} (ha : XT X Γ a m) (hb : XW X Γ (.BoolOp .Or (b :: rest) pos) n) : XW X Γ (.BoolOp .Or (a :: b :: rest) pos) (mOr m n) := by
  intro C s σ G H o k z s' hm Q q
  obtain ⟨⟨x, s1⟩, h1, h2⟩ := bindE hm
  refine wW_of (pw_or pt_w pw_w) ?_
  refine ha C s σ G H o k x s1 h1 _ fun G1 H1 o1 k1 g1 kp => ?_
  cases x with
  | false => exact hb C s1 σ G1 H1 o1 k1 z s' h2 Q fun G2 H2 o2 k2 g2 kp2 => q G2 H2 o2 k2 (g1.trans g2) (kp.trans kp2)
  | true =>
    cases h2
    exact q G1 H1 o1 k1 g1 kp
/-- .. as values -/
theorem XE.one {op} {R : RT X.K β} {m : M αs β} (h : XE X Γ a R m) : XE X Γ (.BoolOp op [a] pos) R m := fun C s σ G H o k z s' hm Q q => wE_of (pe_one pe_w) (h C s σ G H o k z s' hm Q q)
theorem XE.and {m n : M αs Bool} {rest : List Expr} (ha : XE X Γ a (RT.dat X.K Bool) m) (hb : XE X Γ (.BoolOp .And (b :: rest) pos) (RT.dat X.K Bool) n) : XE X Γ (.BoolOp .And (a :: b :: rest) pos) (RT.dat X.K Bool) (mAnd m n) := by
  intro C s σ G H o k z s' hm Q q
  obtain ⟨⟨x, s1⟩, h1, h2⟩ := bindE hm
  refine wE_of (pe_and pe_w pe_w) ?_
  refine ha C s σ G H o k x s1 h1 _ fun v G1 H1 o1 B k1 g1 kp r1 t1 => ?_
  cases dq_bl r1
  cases x with
  | true => exact ⟨true, rfl, hb C s1 σ G1 H1 o1 k1 z s' h2 Q fun v G2 H2 o2 B k2 g2 kp2 r t => q v G2 H2 o2 B k2 (g1.trans g2) (kp.trans kp2) r t⟩
  | false =>
    cases h2
    exact ⟨false, rfl, q _ G1 H1 o1 (fun _ => False) k1 g1 kp (show Dq X.K G1 (.bl false) (.bool false) from .bl _) tmp0⟩
theorem XE.or {m n : M αs Bool} {rest : List Expr} (ha : XE X Γ a (RT.dat X.K Bool) m) (hb : XE X Γ (.BoolOp .Or (b :: rest) pos) (RT.dat X.K Bool) n) : XE X Γ (.BoolOp .Or (a :: b :: rest) pos) (RT.dat X.K Bool) (mOr m n) := by
  intro C s σ G H o k z s' hm Q q
  obtain ⟨⟨x, s1⟩, h1, h2⟩ := bindE hm
  refine wE_of (pe_or pe_w pe_w) ?_
  refine ha C s σ G H o k x s1 h1 _ fun v G1 H1 o1 B k1 g1 kp r1 t1 => ?_
  cases dq_bl r1
  cases x with
  | false => exact ⟨false, rfl, hb C s1 σ G1 H1 o1 k1 z s' h2 Q fun v G2 H2 o2 B k2 g2 kp2 r t => q v G2 H2 o2 B k2 (g1.trans g2) (kp.trans kp2) r t⟩
  | true =>
    cases h2
    exact ⟨true, rfl, q _ G1 H1 o1 (fun _ => False) k1 g1 kp (show Dq X.K G1 (.bl true) (.bool true) from .bl _) tmp0⟩
theorem XE.not {m : M αs Bool} (h : XE X Γ e (RT.dat X.K Bool) m) : XE X Γ (.UnaryOp .Not e pos) (RT.dat X.K Bool) (m1 bnot m) :=
  .un (r := fun x H Q => ∃ c, x = V.bl c ∧ Q (.bl (!c)) H) (pe_not pe_w) h rfl fun G H v x z Q e hx hz q => by
    cases hz
    cases dq_bl hx
    exact ⟨x, rfl, here (z := !x) e (.bl _) q⟩
theorem XE.ite {R : RT X.K β} {mc : M αs Bool} {m n : M αs β} (hc : XT X Γ c mc) (ha : XE X Γ a R m) (hb : XE X Γ b R n) : XE X Γ (.IfExp c a b pos) R (mIte mc m n) := by
  intro C s σ G H o k z s' hm Q q
  obtain ⟨⟨x, s1⟩, h1, h2⟩ := bindE hm
  refine wE_of (pe_ifExp pt_w pe_w pe_w) ?_
  refine hc C s σ G H o k x s1 h1 _ fun G1 H1 o1 k1 g1 kp => ?_
  cases x with
  | true => exact ha C s1 σ G1 H1 o1 k1 z s' h2 Q fun v G2 H2 o2 B k2 g2 kp2 r t => q v G2 H2 o2 B k2 (g1.trans g2) (kp.trans kp2) r t
  | false => exact hb C s1 σ G1 H1 o1 k1 z s' h2 Q fun v G2 H2 o2 B k2 g2 kp2 r t => q v G2 H2 o2 B k2 (g1.trans g2) (kp.trans kp2) r t
inductive Ctl (ρ : Type) where
  | nx | bk | ct | rt (r : ρ)
abbrev MS (αs : List Type) (ρ : Type) := Env αs → Option (Ctl ρ × Env αs)
/-- what is wanted at the ends of a body -/
structure Pk (K : Fr) (αs : List Type) (ρ : Type) where
  R : RT K ρ
  Γr : RTs K αs
  Γl : RTs K αs
  fin : VK → L2.St → V → Hp → Prop := fun Q _ v H => Q v H
/-- handed back -/
abbrev retF : VK → L2.St → V → Hp → Prop := fun Q _ v H => Q v H
def Fin {K : Fr} (C : C0) {αs : List Type} {ρ : Type} (P : Pk K αs ρ) (Γ : RTs K αs) (D : Ends) (c : Ctl ρ) (s : Env αs) : Prop := match c with
  | .nx => ∀ (σ : L2.St) (G H : Hp) (o : Addr → Option Nat), Ok C Γ s σ G H o → D.nx σ H
  | .bk => ∀ (σ : L2.St) (G H : Hp) (o : Addr → Option Nat), Ok C P.Γl s σ G H o → D.bk σ H
  | .ct => ∀ (σ : L2.St) (G H : Hp) (o : Addr → Option Nat), Ok C P.Γl s σ G H o → D.ct σ H
  | .rt r => ∀ (σ : L2.St) (v : V) (G H : Hp) (o : Addr → Option Nat) (B : Addr → Prop), Ok C P.Γr s σ G H o → P.R.rel G H v r B → Tmp C B G H o → P.fin D.rt σ v H
def XS (X : Cx) {αs : List Type} {ρ : Type} (P : Pk X.K αs ρ) (Γ Γ' : RTs X.K αs) (st : Stmt) (m : MS αs ρ) : Prop :=
  ∀ (C : C0) (s : Env αs) (σ : L2.St) (G H : Hp) (o : Addr → Option Nat), Ok C Γ s σ G H o → ∀ (c : Ctl ρ) (s' : Env αs), m s = some (c, s') → ∀ D : Ends, Fin C P Γ' D c s' → wS X st D σ H
def XSs (X : Cx) {αs : List Type} {ρ : Type} (P : Pk X.K αs ρ) (Γ Γ' : RTs X.K αs) (st : List Stmt) (m : MS αs ρ) : Prop :=
  ∀ (C : C0) (s : Env αs) (σ : L2.St) (G H : Hp) (o : Addr → Option Nat), Ok C Γ s σ G H o → ∀ (c : Ctl ρ) (s' : Env αs), m s = some (c, s') → ∀ D : Ends, Fin C P Γ' D c s' → wSs X st D σ H
def sSkip : MS αs ρ := fun s => some (.nx, s)
def sSeq (m n : MS αs ρ) : MS αs ρ := fun s => (m s).bind fun p => match p.1 with
  | .nx => n p.2
  | .bk => some (.bk, p.2)
  | .ct => some (.ct, p.2)
  | .rt r => some (.rt r, p.2)
def sAsg (x : Var αs α) (m : M αs α) : MS αs ρ := fun s => (m s).bind fun p => some (.nx, x.set (some p.1) p.2)
def sRet (m : M αs ρ) : MS αs ρ := fun s => (m s).bind fun p => some (.rt p.1, p.2)
def sIf (c : M αs Bool) (m n : MS αs ρ) : MS αs ρ := fun s => (c s).bind fun p => if p.1 = true then m p.2 else n p.2
def sDrop (m : M αs α) : MS αs ρ := fun s => (m s).bind fun p => some (.nx, p.2)
def sBk : MS αs ρ := fun s => some (.bk, s)
def sCt : MS αs ρ := fun s => some (.ct, s)
def sFail : MS αs ρ := fun _ => none
variable {P : Pk X.K αs ρ} {st : Stmt} {rest sts : List Stmt}
theorem finR {Q : VK} {v : V} {σ : L2.St} {H : Hp} (hP : P.fin = retF) (h : P.fin Q σ v H) : Q v H := by rw [hP] at h; exact h
theorem XSs.nil : XSs X P Γ Γ [] sSkip := by
  intro C s σ G H o k c s' hm D f
  cases hm
  exact wSs_of pss_nil (f σ G H o k)
theorem XSs.cons {m n : MS αs ρ} (h1 : XS X P Γ Γ1 st m) (h2 : XSs X P Γ1 Γ2 rest n) : XSs X P Γ Γ2 (st :: rest) (sSeq m n) := by
  intro C s σ G H o k c s' hm D f
  obtain ⟨⟨c1, s1⟩, e1, e2⟩ := bindE hm
  refine wSs_of (pss_cons ps_w pss_w) ?_
  refine h1 C s σ G H o k c1 s1 e1 _ ?_
  cases c1 with
  | nx => exact fun σ' G' H' o' k' => h2 C s1 σ' G' H' o' k' c s' e2 D f
  | bk => cases e2; exact f
  | ct => cases e2; exact f
  | rt r => cases e2; exact f
theorem XSs.one {m : MS αs ρ} (h1 : XS X P Γ Γ1 st m) : XSs X P Γ Γ1 [st] m := by
  intro C s σ G H o k c s' hm D f
  exact wSs_of (pss_one ps_w) (h1 C s σ G H o k c s' hm D f)
theorem XS.never : XS X P Γ Γ1 st (sFail : MS αs ρ) := by
  intro C s σ G H o k c s' hm D f
  cases hm
theorem XSs.never : XSs X P Γ Γ1 sts (sFail : MS αs ρ) := by
  intro C s σ G H o k c s' hm D f
  cases hm
theorem XS.ite {mc : M αs Bool} {m n : MS αs ρ} {x y : List Stmt} (hc : XT X Γ c mc) (ha : XSs X P Γ Γ1 x m) (hb : XSs X P Γ Γ1 y n) : XS X P Γ Γ1 (.If c x y pos) (sIf mc m n) := by
  intro C s σ G H o k cc s' hm D f
  obtain ⟨⟨t, s1⟩, e1, e2⟩ := bindE hm
  refine wS_of (ps_if pt_w pss_w pss_w) ?_
  refine hc C s σ G H o k t s1 e1 _ fun G1 H1 o1 k1 g1 kp => ?_
  cases t with
  | true => exact ha C s1 σ G1 H1 o1 k1 cc s' e2 D f
  | false => exact hb C s1 σ G1 H1 o1 k1 cc s' e2 D f
theorem XS.asg {x : Var αs α} {R : RT X.K α} {m : M αs α} {n : Str} {pos' : Pos} (he : XE X Γ e R m) (hN : X.N.Nodup) (hi : X.N[x.idx]? = some n) (hx : Loc X.env.scope n)
    (hs : swapsWith e (some (.Name n pos')) pos.line X.env = pure false := by rfl) (hf : X.fn n = true ∨ X.env.scope.names.lookup n = some .local := by first | exact .inl rfl | exact .inr rfl) :
    XS X P Γ (x.setR R Γ) (.Assign [.Name n pos'] e pos) (sAsg x m) := by
  intro C s σ G H o k c s' hm D f
  obtain ⟨⟨y, s1⟩, e1, e2⟩ := bindE hm
  cases e2
  refine wS_of (ps_set hN hi hx pe_w hs hf) ?_
  refine he C s σ G H o k y s1 e1 _ fun v G1 H1 o1 B k1 g1 kp r t => ?_
  obtain ⟨o2, k2⟩ := k1.set x R r t
  exact f _ G1 H1 o2 k2
/-- forgetting -/
def Wk {K : Fr} : {αs : List Type} → RTs K αs → RTs K αs → Prop
  | [], _, _ => True
  | α :: _, Γ, Γ' => (Γ'.1 = Γ.1 ∨ Γ'.1 = RT.dead K α) ∧ Wk Γ.2 Γ'.2
theorem Wk.get {K : Fr} {αs : List Type} {Γ Γ' : RTs K αs} (h : Wk Γ Γ') {α : Type} (x : Var αs α) : x.rt Γ' = x.rt Γ ∨ x.rt Γ' = RT.dead K α := by
  induction x with
  | vz => exact h.1
  | vs x ih => exact ih h.2
theorem Ok.weak {C : C0} {s : Env αs} {σ : L2.St} {G H : Hp} {o : Addr → Option Nat} (k : Ok C Γ s σ G H o) (w : Wk Γ Γ') : Ok C Γ' s σ G H o := by
  refine ⟨k.g, k.gh, k.new, k.fr, k.dom, k.imm, k.own, k.len, fun α x y hy => ?_⟩
  obtain ⟨v, e, r⟩ := k.sl α x y hy
  refine ⟨v, e, ?_⟩
  rcases w.get x with h | h
  · rw [h]; exact r
  · rw [h]; exact trivial
theorem XSs.weak {m : MS αs ρ} (h : XSs X P Γ1 Γ2 sts m) (w : Wk Γ Γ1) : XSs X P Γ Γ2 sts m := fun C s σ G H o k => h C s σ G H o (k.weak w)
theorem XSs.to {m : MS αs ρ} (h : XSs X P Γ Γ1 sts m) (w : Wk Γ1 Γ2) : XSs X P Γ Γ2 sts m := fun C s σ G H o k c s' hm D f => h C s σ G H o k c s' hm D (by
  cases c with
  | nx => exact fun σ' G' H' o' k' => f σ' G' H' o' (k'.weak w)
  | bk => exact f
  | ct => exact f
  | rt r => exact f)
theorem XS.ret {m : M αs ρ} (he : XE X Γ e P.R m) (w : Wk Γ P.Γr) (hP : P.fin = retF := by rfl) : XS X P Γ Γ1 (.Return (some e) pos) (sRet m) := by
  intro C s σ G H o k c s' hm D f
  obtain ⟨⟨y, s1⟩, e1, e2⟩ := bindE hm
  cases e2
  refine wS_of (ps_ret pe_w) ?_
  exact he C s σ G H o k y s1 e1 _ fun v G1 H1 o1 B k1 g1 kp r t => finR hP (f σ v G1 H1 o1 B (k1.weak w) r t)
/-- one's own value handed out -/
theorem XS.retV {x : Var αs ρ} {n : Str} {pos' : Pos} (hpe : PE X (.Name n pos') (tVar x.idx)) (hr : x.rt Γ = P.R) (w : Wk (x.setR (RT.dead _ _) Γ) P.Γr) (hP : P.fin = retF := by rfl) : XS X P Γ Γ1 (.Return (some (.Name n pos')) pos) (sRet (mV x)) := by
  classical
  intro C s σ G H o k c s' hm D f
  obtain ⟨⟨y, s1⟩, e1, e2⟩ := bindE hm
  cases e2
  obtain ⟨y', h1, h⟩ := bindE e1
  cases h
  obtain ⟨v, e, r⟩ := k.sl ρ x y h1
  rw [hr] at r
  refine wS_of (ps_ret hpe) ⟨v, e, finR hP (f σ v G H (fun a => if o a = some x.idx then none else o a) _ (Ok.weak ?_ w) r fun a ha => ?_)⟩
  · refine ⟨k.g, k.gh, k.new, k.fr, k.dom, k.imm, fun a ha => ?_, k.len, Var.split x (fun z hz => ?_) fun β z hz u hu => ?_⟩
    · by_cases h : o a = some x.idx
      · simp [h] at ha
      · simp only [h, if_false] at ha; exact k.own a ha
    · obtain ⟨v', e', _⟩ := k.sl ρ x z hz
      refine ⟨v', e', ?_⟩
      rw [Var.rt_set]; exact trivial
    · obtain ⟨v', e', r'⟩ := k.sl β z u hu
      refine ⟨v', e', ?_⟩
      rw [Var.rt_ne x z _ _ hz]
      refine (z.rt Γ).wid r' fun a ha => ?_
      have ha' : o a = some z.idx := ha
      show (if o a = some x.idx then none else o a) = some z.idx
      rw [if_neg (by rw [ha']; exact fun e => hz (Option.some.inj e))]; exact ha'
  · have ha' : o a = some x.idx := ha
    obtain ⟨h1, h2, h3⟩ := k.own a (by rw [ha']; simp)
    exact ⟨by simp [ha'], h1, h2, h3⟩
theorem XS.drop {R : RT X.K α} {m : M αs α} (he : XE X Γ e R m) (hs : swapsWith e none pos.line X.env = pure false := by rfl) : XS X P Γ Γ (.Expr e pos) (sDrop m : MS αs ρ) := by
  intro C s σ G H o k c s' hm D f
  obtain ⟨⟨y, s1⟩, e1, e2⟩ := bindE hm
  cases e2
  refine wS_of (ps_expr pe_w hs) ?_
  exact he C s σ G H o k y s1 e1 _ fun v G1 H1 o1 B k1 g1 kp r t => f σ G1 H1 o1 k1
end
end Sm
namespace Sm
open PySem PySem.Spec L2
open Enc (enc)
section
variable {K : Fr} {C : C0} {αs : List Type} {Γ Γ' : RTs K αs} {s s' : Env αs} {σ σ' : L2.St} {G H G' H' : Hp} {o o' : Addr → Option Nat} {B : Addr → Prop}
/-- the state as an entry of its own -/
abbrev reC (G H : Hp) (o : Addr → Option Nat) : C0 := ⟨G, H, fun a => o a ≠ none⟩
theorem Ok.re (k : Ok C Γ s σ G H o) : Ok (reC G H o) Γ s σ G H o :=
  ⟨Ex.refl _, k.gh, fun _ _ _ h => h, fun _ _ _ h => h, fun _ h => h, fun _ _ h _ => h, fun a ha => ⟨(k.own a ha).1, (k.own a ha).2.1, .inl ha⟩, k.len, k.sl⟩
theorem Ok.free (k : Ok C Γ s σ G H o) {a : Addr} (h : o a ≠ none ∨ H a = none) : C.M0 a ∨ C.H0 a = none := by
  rcases h with h | h
  · exact (k.own a h).2.2
  · right
    cases q : C.H0 a with
    | none => rfl
    | some u => exact absurd h (k.dom a (by rw [q]; simp))
theorem Ok.back (k : Ok C Γ s σ G H o) (k' : Ok (reC G H o) Γ' s' σ' G' H' o') : Ok C Γ' s' σ' G' H' o' := by
  have nm : ∀ a u, ¬ C.M0 a → C.H0 a = some u → ¬ (reC G H o).M0 a := fun a u n h z => by
    rcases (k.own a z).2.2 with q | q
    · exact n q
    · rw [q] at h; cases h
  refine ⟨k.g.trans k'.g, k'.gh, fun a n h0 g0 => ?_, fun a ob n h0 => k'.fr a ob (nm a ob n h0) (k.fr a ob n h0), fun a h0 => k'.dom a (k.dom a h0), fun a ob h0 i => k'.imm a ob (k.imm a ob h0 i) i, fun a ha => ?_, k'.len, k'.sl⟩
  · cases q : C.H0 a with
    | none => exact absurd q h0
    | some u => exact k'.new a (nm a u n q) (k.dom a h0) (k.new a n h0 g0)
  · obtain ⟨h1, h2, h3⟩ := k'.own a ha
    exact ⟨h1, h2, k.free h3⟩
theorem Tmp.back (k : Ok C Γ s σ G H o) (t : Tmp (reC G H o) B G' H' o') : Tmp C B G' H' o' := fun a ha => by
  obtain ⟨h1, h2, h3, h4⟩ := t a ha
  exact ⟨h1, h2, h3, k.free h4⟩
end
section
variable {X : Cx} {αs : List Type} {Γ Γ1 Γ2 Γ' Γt : RTs X.K αs} {α β γ ρ : Type} {e a b c tg iter : Expr} {pos : Pos}
def wI (X : Cx) (tg iter : Expr) : TI := fun σ H R => ∀ pins s, Inv X pins σ H s → wpAny (model X.prog X.w) X.A (eval iter X.env) (fun v s1 => wpAny (model X.prog X.w) X.A (pyIter v) (PIE X pins σ tg R) X.xe s1) X.xe s
theorem pi_w : PI X tg iter (wI X tg iter) := ⟨fun pins s _ _ _ I h => h pins s I⟩
theorem wI_of {wi : TI} {σ : L2.St} {H : Hp} {R : It → Hp → Prop} (h : PI X tg iter wi) (q : wi σ H R) : wI X tg iter σ H R := fun pins s I => h.run pins s σ H R I q
/-- an iterator over the items xs -/
structure Src {K : Fr} (G0 : Hp) (J : It) (R : RT K α) (xs : List α) : Prop where
  go : ∀ i y H, xs[i]? = some y → Ex G0 H → J.go i H
  stop : ∀ H, Ex G0 H → J.stop xs.length H
  yld : ∀ i y G H x H', xs[i]? = some y → Ex G0 G → Ex G H → J.yld i H x H' → ∃ G', Al G H G' H' ∧ R.shr G' x y
def XI (X : Cx) {αs : List Type} (Γ : RTs X.K αs) (tg iter : Expr) (R : RT X.K α) (m : M αs (List α)) : Prop :=
  ∀ (C : C0) (s : Env αs) (σ : L2.St) (G H : Hp) (o : Addr → Option Nat), Ok C Γ s σ G H o → ∀ (xs : List α) (s' : Env αs), m s = some (xs, s') → ∀ Rw : It → Hp → Prop,
    (∀ (J : It) (G' H' : Hp) (o' : Addr → Option Nat), Ok C Γ s' σ G' H' o' → Ex G G' → Kp Γ s s' → Src G' J R xs → Rw J H') → wI X tg iter σ H Rw
noncomputable def rng : Int → Option (List Int) := (Seal fun (n : Int) => if -(2 ^ 62) ≤ n ∧ n < 2 ^ 62 then some ((List.range n.toNat).map fun (i : Nat) => (i : Int)) else none).1
theorem rng_eq (n : Int) : rng n = if -(2 ^ 62) ≤ n ∧ n < 2 ^ 62 then some ((List.range n.toNat).map fun (i : Nat) => (i : Int)) else none := by unfold rng; rw [(Seal _).2]
noncomputable def rng2 : Int → Int → Option (List Int) := (Seal fun (a n : Int) => if -(2 ^ 62) ≤ a ∧ a < 2 ^ 62 ∧ -(2 ^ 62) ≤ n ∧ n < 2 ^ 62 then some ((List.range (n - a).toNat).map fun (i : Nat) => a + (i : Int)) else none).1
theorem rng2_eq (a n : Int) : rng2 a n = if -(2 ^ 62) ≤ a ∧ a < 2 ^ 62 ∧ -(2 ^ 62) ≤ n ∧ n < 2 ^ 62 then some ((List.range (n - a).toNat).map fun (i : Nat) => a + (i : Int)) else none := by unfold rng2; rw [(Seal _).2]
theorem src_range {K : Fr} {G : Hp} (lo : Int) (n : Nat) : Src G (Itr lo n) (RT.dat K Int) ((List.range n).map fun (i : Nat) => lo + (i : Int)) := by
  have at_ : ∀ (i : Nat) y, ((List.range n).map fun (i : Nat) => lo + (i : Int))[i]? = some y → i < n ∧ y = lo + (i : Int) := fun i y h => by
    rw [List.getElem?_map] at h
    cases q : (List.range n)[i]? with
    | none => rw [q] at h; cases h
    | some j =>
      rw [q] at h
      obtain ⟨h1, h2⟩ := List.getElem?_eq_some_iff.mp q
      have h3 : i < n := by simpa using h1
      have h4 : i = j := by simpa using h2
      subst h4
      exact ⟨h3, by simpa using h.symm⟩
  refine ⟨fun i y H h _ => (at_ i y h).1, fun H _ => ?_, fun i y G H x H' h _ e yl => ?_⟩
  · show n ≤ _
    rw [List.length_map, List.length_range]
    exact Nat.le_refl _
  · obtain ⟨rfl, rfl⟩ := yl
    obtain ⟨_, rfl⟩ := at_ i y h
    exact ⟨G, .refl e, .int _⟩
theorem XI.range1 {ma : M αs Int} {p : Pos} (hg : Gl X "range") (hm : X.mg "range" = none) (ha : XE X Γ a (RT.dat X.K Int) ma) (hs : starEach [a] X.env = [(false, eval a X.env)] := by exact star1 rfl) :
    XI X Γ tg (.Call (.Name "range" p) [a] [] pos) (RT.dat X.K Int) (m1 rng ma) := by
  intro C s σ G H o k xs s' hm' Rw q
  obtain ⟨n, h1, h2⟩ := m1E hm'
  rw [rng_eq] at h2
  obtain ⟨hb, rfl⟩ := ite_some h2
  refine wI_of (pi_range1 hg hm (pa_cons pe_w pa_nil hs) hs) ?_
  refine ha C s σ G H o k n s' h1 _ fun v G1 H1 o1 B k1 g1 kp r t => ?_
  cases dq_int r
  refine ⟨n, rfl, hb.1, hb.2, q _ G1 H1 o1 k1 g1 kp ?_⟩
  have := src_range (K := X.K) (G := G1) 0 n.toNat
  simpa using this
theorem XI.range2 {ma mb : M αs Int} {p : Pos} (hg : Gl X "range") (hm : X.mg "range" = none) (ha : XE X Γ a (RT.dat X.K Int) ma) (hb : XE X Γ b (RT.dat X.K Int) mb)
    (hp : PA X [a, b] (tCons (wE X a) (tCons (wE X b) tNil)) := by exact pa_cons pe_w (pa_cons pe_w pa_nil (star_cons rfl)) (star_cons rfl)) (hs : starEach [a, b] X.env = [(false, eval a X.env), (false, eval b X.env)] := by exact star2 rfl rfl) (hs2 : starEach [b] X.env = [(false, eval b X.env)] := by exact star1 rfl) :
    XI X Γ tg (.Call (.Name "range" p) [a, b] [] pos) (RT.dat X.K Int) (m2 rng2 ma mb) := by
  intro C s σ G H o k xs s' hm' Rw q
  obtain ⟨x, s1, y, h1, h2, h3⟩ := m2E hm'
  rw [rng2_eq] at h3
  obtain ⟨hz, rfl⟩ := ite_some h3
  refine wI_of (pi_range2 hg hm hp hs hs2) ?_
  refine ha C s σ G H o k x s1 h1 _ fun v G1 H1 o1 B k1 g1 kp r t => ?_
  refine hb C s1 σ G1 H1 o1 k1 y s' h2 _ fun u G2 H2 o2 B2 k2 g2 kp2 r2 t2 => ?_
  cases dq_int r
  cases dq_int r2
  exact ⟨x, y, rfl, hz, q _ G2 H2 o2 k2 (g1.trans g2) (kp.trans kp2) (src_range x (y - x).toNat)⟩
theorem src_list {K : Fr} [Enc α] {G : Hp} {p : Addr} {vs : List V} {xs : List α} (hp : G p = some (.lst vs)) (h : All2 (fun v x => Dq K G v (enc x)) vs xs) : Src G (Itl K p) (RT.dat K α) xs := by
  refine ⟨fun i y H hy e => ?_, fun H e => ⟨vs, SqL.of (e _ _ hp), by rw [h.len]; exact Nat.le_refl _⟩, fun i y G2 H x H' hy e e2 yl => ?_⟩
  · obtain ⟨v, h1, _⟩ := h.get hy
    exact ⟨vs, v, SqL.of (e _ _ hp), h1⟩
  · obtain ⟨rfl, yl⟩ := yl
    obtain ⟨v, h1, h2⟩ := h.get hy
    have := yl vs (SqL.of (e2 _ _ (e _ _ hp)))
    rw [h1] at this; cases this
    exact ⟨G2, .refl e2, dq_mono e h2⟩
theorem XI.list [Enc α] {ma : M αs (List α)} (ha : XE X Γ iter (RT.dat X.K (List α)) ma) : XI X Γ tg iter (RT.dat X.K α) ma := by
  intro C s σ G H o k xs s' hm Rw q
  refine wI_of (pi_list pe_w) ?_
  refine ha C s σ G H o k xs s' hm _ fun v G1 H1 o1 B k1 g1 kp r t => ?_
  obtain ⟨p, vs, rfl, hp, h⟩ := dq_list r
  exact ⟨p, rfl, ⟨vs, SqL.of (k1.gh _ _ hp)⟩, q _ G1 H1 o1 k1 g1 kp (src_list hp h)⟩
def wG (X : Cx) (tg : Expr) : TG := fun v σ H Q => ∀ (pins : List (Addr × Obj)) (s : Shared) (u : Value), Inv X pins σ H s → RelV v u → wpAny (model X.prog X.w) X.A (assign tg X.env u) (fun _ s' => ∃ σ' H', Inv X pins σ' H' s' ∧ Q σ' H') X.xe s
theorem pg_w : PG X tg (wG X tg) := ⟨fun pins s _ _ _ u _ I r h => h pins s u I r⟩
theorem wG_of {g : TG} {v : V} {σ : L2.St} {H : Hp} {Q : L2.St → Hp → Prop} (h : PG X tg g) (q : g v σ H Q) : wG X tg v σ H Q := fun pins s u I r => h.run pins s σ H v u Q I r q
/-- vs: the slots that are stored -/
def XG (X : Cx) {αs : List Type} (Γ Γ' : RTs X.K αs) (tg : Expr) (R : RT X.K α) (vs : List Nat) (f : α → Env αs → Env αs) : Prop :=
  ∀ (C : C0) (s : Env αs) (σ : L2.St) (G H : Hp) (o : Addr → Option Nat), Ok C Γ s σ G H o → ∀ (v : V) (y : α), R.shr G v y → ∀ Q : L2.St → Hp → Prop,
    (∀ (σ' : L2.St) (o' : Addr → Option Nat), Ok C Γ' (f y s) σ' G H o' → (wipe σ' vs = wipe σ vs) → Q σ' H) → wG X tg v σ H Q
theorem XG.name {x : Var αs α} {R : RT X.K α} {n : Str} (hR : R.fix = true) (hN : X.N.Nodup) (hi : X.N[x.idx]? = some n) (hx : Loc X.env.scope n) (hf : X.fn n = true ∨ X.env.scope.names.lookup n = some .local := by first | exact .inl rfl | exact .inr rfl) :
    XG X Γ (x.setR R Γ) (.Name n pos) R [x.idx] (fun y s => x.set (some y) s) := by
  intro C s σ G H o k v y r Q q
  obtain ⟨o', k'⟩ := k.set x R ((cpy_of hR G H v y (fun _ => False)).mpr r) fun _ h => h.elim
  refine wG_of (pg_name hN hi hx hf) (q _ o' k' ?_)
  show (σ.set x.idx (some v)).set x.idx none = σ.set x.idx none
  rw [List.set_set]
theorem XG.pair [Enc α] [Enc β] {x : Var αs α} {y : Var αs β} {n n' : Str} {p1 p2 : Pos} {kk : Nat} (hc : X.calm = true) (hN : X.N.Nodup) (hi : X.N[x.idx]? = some n) (hx : Loc X.env.scope n) (hj : X.N[y.idx]? = some n') (hy : Loc X.env.scope n') (hne : x.idx ≠ y.idx)
    (hf : X.fn n = true ∨ X.env.scope.names.lookup n = some .local := by first | exact .inl rfl | exact .inr rfl) (hf' : X.fn n' = true ∨ X.env.scope.names.lookup n' = some .local := by first | exact .inl rfl | exact .inr rfl) :
    XG X Γ (y.setR (RT.dat X.K β) (x.setR (RT.dat X.K α) Γ)) (.Tuple [.Name n p1, .Name n' p2] kk pos) (RT.dat X.K (α × β)) [x.idx, y.idx] (fun z s => y.set (some z.2) (x.set (some z.1) s)) := by
  intro C s σ G H o k v z r Q q
  obtain ⟨p, v1, v2, rfl, hp, h1, h2⟩ := dq_pair r
  obtain ⟨o', k'⟩ := k.set x (RT.dat X.K α) (v := v1) (y := z.1) (B := fun _ => False) h1 fun _ h => h.elim
  obtain ⟨o2, k2⟩ := k'.set y (RT.dat X.K β) (v := v2) (y := z.2) (B := fun _ => False) h2 fun _ h => h.elim
  refine wG_of (pg_tup hc (pgs_cons (pg_name hN hi hx hf) (pgs_cons (pg_name hN hj hy hf') pgs_nil))) ?_
  refine ⟨p, [v1, v2], rfl, k.gh.t hp, rfl, v1, [v2], rfl, v2, [], rfl, rfl, q _ o2 k2 ?_⟩
  show (((σ.set x.idx (some v1)).set y.idx (some v2)).set y.idx none).set x.idx none = (σ.set y.idx none).set x.idx none
  rw [List.set_set, List.set_comm _ _ hne, List.set_set]
def loopF (f : α → Env αs → Env αs) (m : MS αs ρ) : List α → Env αs → Option (Ctl ρ × Env αs)
  | [], s => some (.nx, s)
  | x :: xs, s => (m (f x s)).bind fun p => match p.1 with
    | .nx => loopF f m xs p.2
    | .ct => loopF f m xs p.2
    | .bk => some (.nx, p.2)
    | .rt r => some (.rt r, p.2)
def sFor (mi : M αs (List α)) (f : α → Env αs → Env αs) (m : MS αs ρ) : MS αs ρ := fun s => (mi s).bind fun p => loopF f m p.1 p.2
variable {P : Pk X.K αs ρ} {body : List Stmt}
theorem XS.for_ {R : RT X.K α} {mi : M αs (List α)} {f : α → Env αs → Env αs} {m : MS αs ρ} {vs : List Nat} (hp : PassesOwn (model X.prog X.w) X.A X.env X.xe) (hc : X.calm = true) (hi : XI X Γ tg iter R mi) (w : Wk Γ Γ1)
    (hg : XG X Γ1 Γt tg R vs f) (hb : XSs X ⟨P.R, P.Γr, Γ1, P.fin⟩ Γt Γ1 body m) (hs : ∀ x, foldedSetIterable iter X.env x = pure x := by intro _; rfl) : XS X P Γ Γ1 (.For tg iter body [] pos) (sFor mi f m) := by
  intro C s σ G H o k c s' hm D fin
  obtain ⟨⟨xs, s1⟩, e1, e2⟩ := bindE hm
  refine wS_of (ps_for hp hc pi_w pg_w pss_w hs) ?_
  refine hi C s σ G H o k xs s1 e1 _ fun J G1 H1 o1 k1 g1 kp src => ?_
  have k1 := k1.weak w
  have base : ∀ {Γ' : RTs X.K αs} {s2 : Env αs} {σ2 : L2.St} {G2 H2 : Hp} {o2 : Addr → Option Nat}, Ok (reC G1 H1 o1) Γ' s2 σ2 G2 H2 o2 → Ok C Γ' s2 σ2 G2 H2 o2 := fun k2 => k1.back k2
  refine ⟨fun i n σ' H' => n = xs.length - i ∧ i ≤ xs.length ∧ ∃ s2 G2 o2, Ok (reC G1 H1 o1) Γ1 s2 σ' G2 H' o2 ∧ loopF f m (xs.drop i) s2 = some (c, s'), ⟨xs.length, by simp, Nat.zero_le _, s1, G1, o1, k1.re, e2⟩, ?_⟩
  rintro i n σ' H' ⟨rfl, hi', s2, G2, o2, k2, e3⟩
  by_cases hlt : i < xs.length
  · have hat : xs[i]? = some xs[i] := List.getElem?_eq_getElem hlt
    rw [List.drop_eq_getElem_cons hlt] at e3
    obtain ⟨⟨c2, s3⟩, e4, e5⟩ := bindE e3
    refine .inr ⟨src.go i _ H' hat (k2.g.trans k2.gh), fun σ3 H3 => ∃ s2 G2 o2, Ok (reC G1 H1 o1) Γ1 s2 σ3 G2 H3 o2 ∧ loopF f m (xs.drop (i + 1)) s2 = some (c, s'), fun σ3 H3 q => ⟨xs.length - (i + 1), by omega, rfl, hlt, q⟩, fun x H3 yl => ?_⟩
    obtain ⟨G3, al, r⟩ := src.yld i _ G2 H' x H3 hat k2.g k2.gh yl
    refine hg _ s2 σ' G3 H3 o2 (k2.al al) x _ r _ fun σ4 o4 k4 _ => ?_
    refine hb _ _ σ4 G3 H3 o4 k4 c2 s3 e4 _ ?_
    cases c2 with
    | nx => exact fun σ5 G5 H5 o5 k5 => ⟨s3, G5, o5, k5, e5⟩
    | ct => exact fun σ5 G5 H5 o5 k5 => ⟨s3, G5, o5, k5, e5⟩
    | bk =>
      cases e5
      exact fun σ5 G5 H5 o5 k5 => fin σ5 G5 H5 o5 (base k5)
    | rt r =>
      cases e5
      exact fun σ5 v G5 H5 o5 B k5 r5 t5 => fin σ5 v G5 H5 o5 B (base k5) r5 (Tmp.back k1 t5)
  · have e : i = xs.length := by omega
    subst e
    rw [List.drop_length] at e3
    cases e3
    exact .inl ⟨src.stop H' (k2.g.trans k2.gh), fin σ' G2 H' o2 (base k2)⟩
def loopW (mc : M αs Bool) (m : MS αs ρ) : Nat → Env αs → Option (Ctl ρ × Env αs)
  | 0, _ => none
  | n + 1, s => (mc s).bind fun p => if p.1 = true then (m p.2).bind fun q => match q.1 with
    | .nx => loopW mc m n q.2
    | .ct => loopW mc m n q.2
    | .bk => some (.nx, q.2)
    | .rt r => some (.rt r, q.2) else some (.nx, p.2)
open Classical in
noncomputable def sWhile (mc : M αs Bool) (m : MS αs ρ) : MS αs ρ := fun s => if h : ∃ n r, loopW mc m n s = some r then some (Classical.choose (Classical.choose_spec h)) else none
theorem loopW_more {mc : M αs Bool} {m : MS αs ρ} : ∀ (n : Nat) (s : Env αs) (r), loopW mc m n s = some r → loopW mc m (n + 1) s = some r
  | 0, _, _, h => by cases h
  | n + 1, s, r, h => by
    rw [loopW] at h ⊢
    obtain ⟨p, h1, h2⟩ := bindE h
    rw [h1]
    show (if p.1 = true then _ else _) = _
    by_cases hp : p.1 = true
    · rw [if_pos hp] at h2 ⊢
      obtain ⟨q, h3, h4⟩ := bindE h2
      rw [h3]
      obtain ⟨c, s2⟩ := q
      cases c with
      | nx => exact loopW_more n s2 r h4
      | ct => exact loopW_more n s2 r h4
      | bk => exact h4
      | rt _ => exact h4
    · rw [if_neg hp] at h2 ⊢
      exact h2
theorem loopW_le {mc : M αs Bool} {m : MS αs ρ} {n k : Nat} {s : Env αs} {r} (h : loopW mc m n s = some r) (hk : n ≤ k) : loopW mc m k s = some r := by
  induction k with
  | zero => cases Nat.le_zero.mp hk; exact h
  | succ k ih =>
    by_cases e : n = k + 1
    · subst e; exact h
    · exact loopW_more k s r (ih (by omega))
theorem sWhile_of {mc : M αs Bool} {m : MS αs ρ} {n : Nat} {s : Env αs} {r} (h : loopW mc m n s = some r) : sWhile mc m s = some r := by
  have hx : ∃ n r, loopW mc m n s = some r := ⟨n, r, h⟩
  unfold sWhile
  rw [dif_pos hx]
  have h2 := Classical.choose_spec (Classical.choose_spec hx)
  have h3 := loopW_le h2 (Nat.le_max_left _ n)
  have h4 := loopW_le h (Nat.le_max_right (Classical.choose hx) n)
  rw [h3] at h4
  exact h4
theorem sWhile_to {mc : M αs Bool} {m : MS αs ρ} {s : Env αs} {r} (h : sWhile mc m s = some r) : ∃ n, loopW mc m n s = some r := by
  unfold sWhile at h
  by_cases hx : ∃ n r, loopW mc m n s = some r
  · rw [dif_pos hx] at h
    have h2 := Classical.choose_spec (Classical.choose_spec hx)
    rw [Option.some.inj h] at h2
    exact ⟨_, h2⟩
  · rw [dif_neg hx] at h; cases h
theorem XS.while_ {mc : M αs Bool} {m : MS αs ρ} (hp : PassesOwn (model X.prog X.w) X.A X.env X.xe) (hc : XT X Γ1 c mc) (hb : XSs X ⟨P.R, P.Γr, Γ1, P.fin⟩ Γ1 Γ1 body m) (w : Wk Γ Γ1) : XS X P Γ Γ1 (.While c body [] pos) (sWhile mc m) := by
  intro C s σ G H o k cc s' hm D fin
  obtain ⟨n0, e0⟩ := sWhile_to hm
  refine wS_of (ps_while hp pt_w pss_w) ?_
  refine ⟨fun n σ' H' => ∃ s2 G2 o2, Ok C Γ1 s2 σ' G2 H' o2 ∧ loopW mc m n s2 = some (cc, s'), ⟨n0, s, G, o, k.weak w, e0⟩, ?_⟩
  rintro n σ' H' ⟨s2, G2, o2, k2, e2⟩
  cases n with
  | zero => cases e2
  | succ n =>
    obtain ⟨⟨t, s3⟩, e3, e4⟩ := bindE e2
    refine hc C s2 σ' G2 H' o2 k2 t s3 e3 _ fun G3 H3 o3 k3 g3 kp => ?_
    cases t with
    | false =>
      cases e4
      exact fin σ' G3 H3 o3 k3
    | true =>
      obtain ⟨⟨c4, s4⟩, e5, e6⟩ := bindE e4
      refine ⟨fun σ4 H4 => ∃ s2 G2 o2, Ok C Γ1 s2 σ4 G2 H4 o2 ∧ loopW mc m n s2 = some (cc, s'), fun σ4 H4 q => ⟨n, Nat.lt_succ_self n, q⟩, ?_⟩
      refine hb C s3 σ' G3 H3 o3 k3 c4 s4 e5 _ ?_
      cases c4 with
      | nx => exact fun σ5 G5 H5 o5 k5 => ⟨s4, G5, o5, k5, e6⟩
      | ct => exact fun σ5 G5 H5 o5 k5 => ⟨s4, G5, o5, k5, e6⟩
      | bk => cases e6; exact fin
      | rt r => cases e6; exact fin
end
end Sm
namespace Sm
open PySem PySem.Spec L2
open Enc (enc)
theorem wipe_ne {σ : L2.St} {i : Nat} : ∀ {vs : List Nat}, i ∉ vs → (wipe σ vs)[i]? = σ[i]?
  | [], _ => rfl
  | v :: vs, h => by
    show ((wipe σ vs).set v none)[i]? = _
    rw [List.getElem?_set_ne (fun e => h (by rw [e]; exact List.mem_cons_self))]
    exact wipe_ne fun m => h (List.mem_cons_of_mem _ m)
section
variable {K : Fr} {C : C0} {αs : List Type} {Γ Γ' : RTs K αs} {s s' : Env αs} {σ σ' : L2.St} {G H G' H' : Hp} {o o' : Addr → Option Nat} {B : Addr → Prop}
/-- a temporary cell is changed -/
theorem Ok.touch (k : Ok C Γ s σ G H o) {d : Addr} {u : HO} (hG : G d = none) (ho : o d = none) (hf : C.M0 d ∨ C.H0 d = none) (hi : ∀ ob, H d = some ob → im ob = false) : Ok C Γ s σ G (upd H d u) o := by
  refine ⟨k.g, fun a ob e => ?_, k.new, fun a ob nm e => ?_, fun a e => ?_, fun a ob e i => ?_, fun a ha => ?_, k.len, fun α x y hx => ?_⟩
  · rw [upd_ne (fun z => by rw [z, hG] at e; cases e)]; exact k.gh a ob e
  · have : a ≠ d := fun z => by
      rw [z] at nm e
      rcases hf with q | q
      · exact nm q
      · rw [q] at e; cases e
    rw [upd_ne this]; exact k.fr a ob nm e
  · by_cases z : a = d
    · rw [z, upd_same]; simp
    · rw [upd_ne z]; exact k.dom a e
  · have h1 := k.imm a ob e i
    have : a ≠ d := fun z => by
      rw [z] at h1
      rw [hi ob h1] at i; cases i
    rw [upd_ne this]; exact h1
  · obtain ⟨h1, ⟨ob, h2, h3⟩, h4⟩ := k.own a ha
    have : a ≠ d := fun z => by rw [z, ho] at ha; exact ha rfl
    exact ⟨h1, ⟨ob, by rw [upd_ne this]; exact h2, h3⟩, h4⟩
  · obtain ⟨v, e, r⟩ := k.sl α x y hx
    refine ⟨v, e, (x.rt Γ).grow r (Ex.refl _) fun a ha => ?_⟩
    have ha' : o a = some x.idx := ha
    rw [upd_ne (fun z => by rw [z, ho] at ha'; cases ha')]
end
section
variable {X : Cx} {αs : List Type} {Γ Γ1 Γ2 Γ' Γt : RTs X.K αs} {α β γ ρ : Type} {e a b c tg iter elt : Expr} {pos : Pos}
def wTs (X : Cx) (ifs : List Expr) : TT := fun σ H Q => ∀ pins s, Inv X pins σ H s →
  wpAny (model X.prog X.w) X.A (forIn ifs true fun c r => if r = true then do let ok ← isTrue c X.env (eval c X.env); pure (ForInStep.yield ok) else pure (ForInStep.yield r)) (TP X pins σ Q) X.xe s
def XTs (X : Cx) {αs : List Type} (Γ : RTs X.K αs) (ifs : List Expr) (m : M αs Bool) : Prop :=
  ∀ (C : C0) (s : Env αs) (σ : L2.St) (G H : Hp) (o : Addr → Option Nat), Ok C Γ s σ G H o → ∀ (x : Bool) (s' : Env αs), m s = some (x, s') → ∀ Q : Bool → Hp → Prop,
    (∀ (G' H' : Hp) (o' : Addr → Option Nat), Ok C Γ s' σ G' H' o' → Ex G G' → Kp Γ s s' → Q x H') → wTs X ifs σ H Q
theorem XTs.nil : XTs X Γ [] (mC true) := by
  intro C s σ G H o k x s' hm Q q
  cases hm
  exact fun pins st I => pts_nil.run pins st σ H Q I (q G H o k (Ex.refl _) .refl)
theorem XTs.one {m : M αs Bool} (h : XT X Γ c m) : XTs X Γ [c] m := by
  intro C s σ G H o k x s' hm Q q
  exact fun pins st I => (pts_one pt_w).run pins st σ H Q I (h C s σ G H o k x s' hm Q q)
/-- what a target's names were ahead of a comprehension -/
structure Own (αs : List Type) (vs : List Nat) (f : α → Env αs → Env αs) where
  wp : Env αs → Env αs
  rs : Env αs → Env αs → Env αs
  wp_in : ∀ (β : Type) (x : Var αs β) (s : Env αs), x.idx ∈ vs → x.get (wp s) = none
  wp_out : ∀ (β : Type) (x : Var αs β) (s : Env αs), x.idx ∉ vs → x.get (wp s) = x.get s
  f_wp : ∀ (y : α) (s : Env αs), f y (wp s) = f y s
  f_out : ∀ (β : Type) (x : Var αs β) (y : α) (s : Env αs), x.idx ∉ vs → x.get (f y s) = x.get s
  rs_in : ∀ (β : Type) (x : Var αs β) (s s2 : Env αs), x.idx ∈ vs → x.get (rs s s2) = x.get s
  rs_out : ∀ (β : Type) (x : Var αs β) (s s2 : Env αs), x.idx ∉ vs → x.get (rs s s2) = x.get s2
theorem Var.set_set : ∀ {αs : List Type} {α : Type} (x : Var αs α) (a b : Option α) (s : Env αs), x.set a (x.set b s) = x.set a s
  | _, _, .vz, _, _, _ => rfl
  | _, _, .vs x, a, b, s => by
    show (s.1, x.set a (x.set b s.2)) = (s.1, x.set a s.2)
    rw [x.set_set]
theorem Var.set_comm : ∀ {αs : List Type} {α β : Type} (x : Var αs α) (y : Var αs β) (a : Option α) (b : Option β) (s : Env αs), x.idx ≠ y.idx → x.set a (y.set b s) = y.set b (x.set a s)
  | _, _, _, .vz, .vz, _, _, _, h => absurd rfl h
  | _, _, _, .vz, .vs _, _, _, _, _ => rfl
  | _, _, _, .vs _, .vz, _, _, _, _ => rfl
  | _, _, _, .vs x, .vs y, a, b, s, h => by
    show (s.1, x.set a (y.set b s.2)) = (s.1, y.set b (x.set a s.2))
    rw [set_comm x y a b s.2 (by simpa [idx] using h)]
def Own.one (x : Var αs α) : Own αs [x.idx] (fun (y : α) s => x.set (some y) s) where
  wp := fun s => x.set none s
  rs := fun s s2 => x.set (x.get s) s2
  wp_in := fun β y s h => by
    refine Var.split x (P := fun β y => y.idx ∈ [x.idx] → y.get (x.set none s) = none) (fun _ => x.get_set _ _) (fun β y hy h => ?_) β y h
    exact absurd (by simpa using h) hy
  wp_out := fun β y s h => Var.get_ne x y _ _ (by simpa using h)
  f_wp := fun y s => x.set_set _ _ _
  f_out := fun β y z s h => Var.get_ne x y _ _ (by simpa using h)
  rs_in := fun β y s s2 h => by
    refine Var.split x (P := fun β y => y.idx ∈ [x.idx] → y.get (x.set (x.get s) s2) = y.get s) (fun _ => x.get_set _ _) (fun β y hy h => ?_) β y h
    exact absurd (by simpa using h) hy
  rs_out := fun β y s s2 h => Var.get_ne x y _ _ (by simpa using h)
def Own.two (x : Var αs α) (z : Var αs β) (hne : x.idx ≠ z.idx) : Own αs [x.idx, z.idx] (fun (y : α × β) s => z.set (some y.2) (x.set (some y.1) s)) where
  wp := fun s => z.set none (x.set none s)
  rs := fun s s2 => z.set (z.get s) (x.set (x.get s) s2)
  wp_in := fun γ y s h => by
    refine Var.split z (P := fun β y => y.idx ∈ [x.idx, z.idx] → y.get (z.set none (x.set none s)) = none) (fun _ => z.get_set _ _) (fun β y hy h => ?_) γ y h
    rw [Var.get_ne z y _ _ hy]
    refine Var.split x (P := fun β y => y.idx ≠ z.idx → y.idx ∈ [x.idx, z.idx] → y.get (x.set none s) = none) (fun _ _ => x.get_set _ _) (fun β y hx hz h => ?_) β y hy h
    simp at h
    exact absurd h (by intro h; rcases h with h | h; exact hx h; exact hz h)
  wp_out := fun γ y s h => by
    simp at h
    rw [Var.get_ne z y _ _ h.2, Var.get_ne x y _ _ h.1]
  f_wp := fun y s => by
    rw [Var.set_comm x z _ _ _ hne, Var.set_set, Var.set_set]
  f_out := fun γ y w s h => by
    simp at h
    rw [Var.get_ne z y _ _ h.2, Var.get_ne x y _ _ h.1]
  rs_in := fun γ y s s2 h => by
    refine Var.split z (P := fun β y => y.idx ∈ [x.idx, z.idx] → y.get (z.set (z.get s) (x.set (x.get s) s2)) = y.get s) (fun _ => z.get_set _ _) (fun β y hy h => ?_) γ y h
    rw [Var.get_ne z y _ _ hy]
    refine Var.split x (P := fun β y => y.idx ≠ z.idx → y.idx ∈ [x.idx, z.idx] → y.get (x.set (x.get s) s2) = y.get s) (fun _ _ => x.get_set _ _) (fun β y hx hz h => ?_) β y hy h
    simp at h
    exact absurd h (by intro h; rcases h with h | h; exact hx h; exact hz h)
  rs_out := fun γ y s s2 h => by
    simp at h
    rw [Var.get_ne z y _ _ h.2, Var.get_ne x y _ _ h.1]
def loopC (f : α → Env αs → Env αs) (rs : Env αs → Env αs → Env αs) (mt : M αs Bool) (me : M αs β) : List α → Env αs → Option (List β × Env αs)
  | [], s => some ([], s)
  | x :: xs, s => (mt (f x s)).bind fun p => if p.1 = true then (me p.2).bind fun q => (loopC f rs mt me xs (rs s q.2)).bind fun r => some (q.1 :: r.1, r.2) else loopC f rs mt me xs (rs s p.2)
def mLc (mi : M αs (List α)) (f : α → Env αs → Env αs) (rs : Env αs → Env αs → Env αs) (mt : M αs Bool) (me : M αs β) : M αs (List β) := fun s => (mi s).bind fun p => if p.1.length ≤ 1000000 then loopC f rs mt me p.1 p.2 else none
/-- the reading of a comprehension, from its parts -/
theorem lc_read [Enc β] [PureE β] {R : RT X.K α} {mi : M αs (List α)} {f : α → Env αs → Env αs} {mt : M αs Bool} {me : M αs β} {vs : List Nat} {tgG : TG} {tT : TT} {tE : TE}
    (hi : XI X Γ tg iter R mi) (O : Own αs vs f) (hfix : ∀ (γ : Type) (x : Var αs γ), x.idx ∈ vs → (x.rt Γ).fix = true) (hΓ : ∀ (γ : Type) (x : Var αs γ), x.idx ∉ vs → x.rt Γt = x.rt Γ)
    (hg : ∀ (C : C0) (s : Env αs) (σ : L2.St) (G H : Hp) (o : Addr → Option Nat), Ok C Γ s σ G H o → ∀ (v : V) (y : α), R.shr G v y → ∀ Q : L2.St → Hp → Prop, (∀ (σ' : L2.St) (o' : Addr → Option Nat), Ok C Γt (f y s) σ' G H o' → (wipe σ' vs = wipe σ vs) → Q σ' H) → tgG v σ H Q)
    (ht : ∀ (C : C0) (s : Env αs) (σ : L2.St) (G H : Hp) (o : Addr → Option Nat), Ok C Γt s σ G H o → ∀ (x : Bool) (s' : Env αs), mt s = some (x, s') → ∀ Q : Bool → Hp → Prop, (∀ (G' H' : Hp) (o' : Addr → Option Nat), Ok C Γt s' σ G' H' o' → Ex G G' → Kp Γt s s' → Q x H') → tT σ H Q)
    (he : ∀ (C : C0) (s : Env αs) (σ : L2.St) (G H : Hp) (o : Addr → Option Nat), Ok C Γt s σ G H o → ∀ (x : β) (s' : Env αs), me s = some (x, s') → ∀ Q : VK, (∀ (v : V) (G' H' : Hp) (o' : Addr → Option Nat) (B : Addr → Prop), Ok C Γt s' σ G' H' o' → Ex G G' → Kp Γt s s' → (RT.dat X.K β).rel G' H' v x B → Tmp C B G' H' o' → Q v H') → tE σ H Q) :
    ∀ (C : C0) (s : Env αs) (σ : L2.St) (G H : Hp) (o : Addr → Option Nat), Ok C Γ s σ G H o → ∀ (x : List β) (s' : Env αs), mLc mi f O.rs mt me s = some (x, s') → ∀ Q : VK,
    (∀ (v : V) (G' H' : Hp) (o' : Addr → Option Nat) (B : Addr → Prop), Ok C Γ s' σ G' H' o' → Ex G G' → Kp Γ s s' → (RT.own X.K β).rel G' H' v x B → Tmp C B G' H' o' → Q v H') → tLc (wI X tg iter) tgG tT tE vs σ H Q := by
  intro C s σ G H o k ys sE hm Q q
  obtain ⟨⟨xs, s1⟩, e1, e2⟩ := bindE hm
  by_cases hz : xs.length ≤ 1000000
  case neg => rw [if_neg hz] at e2; cases e2
  rw [if_pos hz] at e2
  refine hi C s σ G H o k xs s1 e1 _ fun J G1 H1 o1 k1 g1 kp src D hD => ?_
  have GD : ∀ {G' H' : Hp} {o' : Addr → Option Nat} {s' : Env αs}, Ok (reC G1 H1 o1) Γ s' σ G' H' o' → True := fun _ => trivial
  have oD1 : o1 D = none := by
    cases z : o1 D with
    | none => rfl
    | some i =>
      obtain ⟨_, ⟨ob, h, _⟩, _⟩ := k1.own D (by rw [z]; simp)
      rw [hD] at h; cases h
  refine ⟨fun i n H' => n = xs.length - i ∧ i ≤ xs.length ∧ ∃ s2 G2 o2 acc zs rest, Ok (reC G1 H1 o1) Γ s2 σ G2 H' o2 ∧ Kp Γ s1 s2 ∧ G2 D = none ∧ o2 D = none ∧ H' D = some (.lst acc) ∧ acc.length ≤ i ∧ All2 (fun v x => Dq X.K G2 v (enc x)) acc zs ∧
      loopC f O.rs mt me (xs.drop i) s2 = some (rest, sE) ∧ ys = zs ++ rest, ⟨xs.length, by simp, Nat.zero_le _, s1, G1, o1, [], [], ys, k1.re.al (Al.my k1.gh hD), .refl, ?_, oD1, upd_same, Nat.le_refl _, trivial, e2, rfl⟩, ?_⟩
  · cases z : G1 D with
    | none => rfl
    | some u => rw [k1.gh D u z] at hD; cases hD
  rintro i n H' ⟨rfl, hi', s2, G2, o2, acc, zs, rest, k2, kp2, gD, oD, hacc, hlen, r2, e3, e4⟩
  by_cases hlt : i < xs.length
  · have hat : xs[i]? = some xs[i] := List.getElem?_eq_getElem hlt
    rw [List.drop_eq_getElem_cons hlt] at e3
    obtain ⟨⟨tb, s3⟩, e5, e6⟩ := bindE e3
    refine .inr ⟨src.go i _ H' hat (k2.g.trans k2.gh), fun H3 => ∃ s2 G2 o2 acc zs rest, Ok (reC G1 H1 o1) Γ s2 σ G2 H3 o2 ∧ Kp Γ s1 s2 ∧ G2 D = none ∧ o2 D = none ∧ H3 D = some (.lst acc) ∧ acc.length ≤ i + 1 ∧ All2 (fun v x => Dq X.K G2 v (enc x)) acc zs ∧
      loopC f O.rs mt me (xs.drop (i + 1)) s2 = some (rest, sE) ∧ ys = zs ++ rest, fun H3 z => ⟨xs.length - (i + 1), by omega, rfl, hlt, z⟩, fun x H3 yl => ?_⟩
    obtain ⟨G3, al, r⟩ := src.yld i _ G2 H' x H3 hat k2.g k2.gh yl
    have k3 := k2.al al
    have hacc3 : H3 D = some (.lst acc) := al.h D _ hacc
    have gD3 : G3 D = none := al.new D (by rw [hacc]; simp) gD
    -- the state within the block, as an entry of its own
    have kb : Ok (reC G3 H3 o2) Γ (O.wp s2) (wipe σ vs) G3 H3 o2 := by
      have kr := k3.re
      refine ⟨kr.g, kr.gh, kr.new, kr.fr, kr.dom, kr.imm, kr.own, by rw [wipe_length]; exact kr.len, fun γ y z hz => ?_⟩
      by_cases hy : y.idx ∈ vs
      · rw [O.wp_in γ y s2 hy] at hz; cases hz
      · rw [O.wp_out γ y s2 hy] at hz
        obtain ⟨v, e, rr⟩ := kr.sl γ y z hz
        exact ⟨v, by rw [wipe_ne hy]; exact e, rr⟩
    -- back to the frame
    have fin : ∀ {s4 : Env αs} {σ4 : L2.St} {G4 H4 : Hp} {o4 : Addr → Option Nat}, Ok (reC G3 H3 o2) Γt s4 σ4 G4 H4 o4 → wipe σ4 vs = wipe σ vs → Kp Γt (f xs[i] s2) s4 → H4 D = some (.lst acc) ∧ G4 D = none ∧ o4 D = none ∧ Kp Γ s1 (O.rs s2 s4) ∧ Ok (reC G1 H1 o1) Γ (O.rs s2 s4) σ G4 H4 o4 := by
      intro s4 σ4 G4 H4 o4 k4 hw kp4
      have h1 : H4 D = some (.lst acc) := k4.fr D _ (fun z => z oD) hacc3
      have h2 : G4 D = none := k4.new D (fun z => z oD) (by show H3 D ≠ none; rw [hacc3]; simp) gD3
      have h3 : o4 D = none := by
        cases z : o4 D with
        | none => rfl
        | some j =>
          rcases (k4.own D (by rw [z]; simp)).2.2 with w | w
          · exact absurd oD w
          · have w' : H3 D = none := w
            rw [hacc3] at w'; cases w'
      have kb4 := k3.back (show Ok (reC G3 H3 o2) Γt s4 σ4 G4 H4 o4 from k4)
      refine ⟨h1, h2, h3, fun γ y hy => ?_, ⟨kb4.g, kb4.gh, kb4.new, kb4.fr, kb4.dom, kb4.imm, kb4.own, k3.len, fun γ y z hz => ?_⟩⟩
      · by_cases hv : y.idx ∈ vs
        · rw [O.rs_in γ y _ _ hv]; exact kp2 γ y hy
        · rw [O.rs_out γ y _ _ hv, kp4 γ y (by rw [hΓ γ y hv]; exact hy), O.f_out γ y _ _ hv]; exact kp2 γ y hy
      · by_cases hv : y.idx ∈ vs
        · rw [O.rs_in γ y _ _ hv] at hz
          obtain ⟨v, e, rr⟩ := k3.sl γ y z hz
          exact ⟨v, e, (cpy_of (hfix γ y hv) _ _ _ _ _).mpr ((y.rt Γ).smono ((cpy_of (hfix γ y hv) _ _ _ _ _).mp rr) k4.g)⟩
        · rw [O.rs_out γ y _ _ hv] at hz
          obtain ⟨v, e, rr⟩ := kb4.sl γ y z hz
          rw [hΓ γ y hv] at rr
          refine ⟨v, ?_, rr⟩
          have e1 : (wipe σ4 vs)[y.idx]? = (wipe σ vs)[y.idx]? := by rw [hw]
          rw [wipe_ne hv, wipe_ne hv] at e1
          rw [← e1]; exact e
    refine hg _ (O.wp s2) (wipe σ vs) G3 H3 o2 kb x _ r _ fun σ4 o4 k4 hw => ?_
    rw [O.f_wp] at k4
    have ww : ∀ (τ : L2.St) (ns : List Nat), wipe (wipe τ ns) ns = wipe τ ns := by
      intro τ ns
      apply List.ext_getElem?
      intro j
      by_cases hj : j ∈ ns
      · have n1 : ∀ (τ : L2.St) (ns : List Nat), j ∈ ns → (wipe τ ns)[j]? = if j < τ.length then some none else none := by
          intro τ ns
          induction ns with
          | nil => intro h; cases h
          | cons n ns ih =>
            intro h
            show ((wipe τ ns).set n none)[j]? = _
            by_cases hn : n = j
            · subst hn
              rw [List.getElem?_set]
              simp [wipe_length]
            · rw [List.getElem?_set_ne hn]
              rcases List.mem_cons.mp h with h | h
              · exact absurd h.symm hn
              · exact ih h
        rw [n1 _ _ hj, n1 _ _ hj, wipe_length]
      · rw [wipe_ne hj]
    have hw : wipe σ4 vs = wipe σ vs := by rw [hw, ww]
    refine ⟨hw, ?_⟩
    refine ht _ _ σ4 G3 H3 o4 k4 tb s3 e5 _ fun G5 H5 o5 k5 g5 kp5 => ?_
    cases tb with
    | false =>
      obtain ⟨h1, h2, h3, h4, h5⟩ := fin k5 hw kp5
      exact ⟨_, G5, o5, acc, zs, rest, h5, h4, h2, h3, h1, Nat.le_succ_of_le hlen, r2.imp fun _ _ z => dq_mono (al.g.trans g5) z, e6, e4⟩
    | true =>
      obtain ⟨⟨y, s6⟩, e7, e8⟩ := bindE e6
      obtain ⟨⟨rest2, s7⟩, e9, e10⟩ := bindE e8
      cases e10
      show tE σ4 H5 _
      refine he _ s3 σ4 G5 H5 o5 k5 y s6 e7 _ fun v G6 H6 o6 B k6 g6 kp6 r6 t6 => ?_
      obtain ⟨h1, h2, h3, h4, h5⟩ := fin k6 hw (kp5.trans kp6)
      refine ⟨acc, h1, Nat.lt_of_le_of_lt (Nat.le_trans hlen (Nat.le_trans (Nat.le_of_lt hlt) hz)) (by decide), _, G6, o6, acc ++ [v], zs ++ [y], rest2, h5.touch h2 h3 (.inr hD) (fun ob e => by rw [h1] at e; cases e; rfl), h4, h2, h3, upd_same, ?_, ?_, e9, ?_⟩
      · rw [List.length_append]
        show acc.length + 1 ≤ i + 1
        omega
      · exact All2.app (r2.imp fun _ _ z => dq_mono ((al.g.trans g5).trans g6) z) ⟨r6, trivial⟩
      · rw [e4]; simp
  · have e : i = xs.length := by omega
    subst e
    rw [List.drop_length] at e3
    cases e3
    rw [List.append_nil] at e4
    subst e4
    refine .inl ⟨src.stop H' (k2.g.trans k2.gh), q (.ref D) G2 H' o2 (fun a => a = D) (k1.back k2) (g1.trans k2.g) (kp.trans kp2) ⟨D, acc, rfl, rfl, hacc, r2⟩ fun a ha => ?_⟩
    subst ha
    exact ⟨oD, gD, ⟨_, hacc, rfl⟩, k1.free (.inr hD)⟩
variable {ifs : List Expr} {scope : Scope} {own : List (Str × Nat)} {P : Pk X.K αs ρ}
theorem XE.lc [Enc β] [PureE β] {R : RT X.K α} {mi : M αs (List α)} {f : α → Env αs → Env αs} {mt : M αs Bool} {me : M αs β} (hc : X.calm = true) (hN : X.N.Nodup) (ok : BlkOk X.N X.env.scope scope own) (O : Own αs (own.map (·.2)) f)
    (hi : XI X Γ tg iter R mi) (hfix : ∀ (γ : Type) (x : Var αs γ), x.idx ∈ own.map (·.2) → (x.rt Γ).fix = true) (hΓ : ∀ (γ : Type) (x : Var αs γ), x.idx ∉ own.map (·.2) → x.rt Γt = x.rt Γ)
    (hg : ∀ (s : Shared) (H : Hp) (C : Addr) (cl : List (Str × Addr)) (fp : List Addr), XG (X.blk s H scope (compEnvC scope cl C X.env) fp) Γ Γt tg R (own.map (·.2)) f)
    (ht : ∀ (s : Shared) (H : Hp) (C : Addr) (cl : List (Str × Addr)) (fp : List Addr), XTs (X.blk s H scope (compEnvC scope cl C X.env) fp) Γt ifs mt)
    (he : ∀ (s : Shared) (H : Hp) (C : Addr) (cl : List (Str × Addr)) (fp : List Addr), XE (X.blk s H scope (compEnvC scope cl C X.env) fp) Γt elt (RT.dat X.K β) me) (hs : ∀ x, foldedSetIterable iter X.env x = pure x := by intro _; rfl) :
    XE X Γ (.ListComp elt [⟨tg, iter, ifs, 0⟩] scope pos) (RT.own X.K β) (mLc mi f O.rs mt me) := by
  intro C s σ G H o k x s' hm Q q
  refine wE_of (pe_lc (wi := wI X tg iter) (g := fun v σ H Q => ∀ s H' C cl fp, wG (X.blk s H' scope (compEnvC scope cl C X.env) fp) tg v σ H Q) (tt := fun σ H Q => ∀ s H' C cl fp, wTs (X.blk s H' scope (compEnvC scope cl C X.env) fp) ifs σ H Q) (te := fun σ H Q => ∀ s H' C cl fp, wE (X.blk s H' scope (compEnvC scope cl C X.env) fp) elt σ H Q) hc hN pi_w ok
    (fun s H' C cl fp => ⟨fun pins st σ H v u Q I r h => h s H' C cl fp pins st u I r⟩) (fun s H' C cl fp => ⟨fun pins st σ H Q I h => h s H' C cl fp pins st I⟩) (fun s H' C cl fp => ⟨fun pins st σ H Q I h => (h s H' C cl fp).run pins st I⟩) hs) ?_
  exact lc_read hi O hfix hΓ (fun C s σ G H o k v y r Q q s' H' C' cl fp => hg s' H' C' cl fp C s σ G H o k v y r Q q) (fun C s σ G H o k x s2 e Q q s' H' C' cl fp => ht s' H' C' cl fp C s σ G H o k x s2 e Q q) (fun C s σ G H o k x s2 e Q q s' H' C' cl fp => he s' H' C' cl fp C s σ G H o k x s2 e Q q) C s σ G H o k x s' hm Q q
end
end Sm
namespace Sm
open PySem PySem.Spec L2
open Enc (enc)
section
variable {K : Fr} {C : C0} {αs : List Type} {Γ Γ' : RTs K αs} {s s' : Env αs} {σ σ' : L2.St} {G H G' H' : Hp} {o o' : Addr → Option Nat} {B : Addr → Prop} {α : Type}
/-- a cell of the slot x is changed -/
theorem Ok.mut (k : Ok C Γ s σ G H o) (x : Var αs α) {p : Addr} {u : HO} {v : V} {y : α} (hσ : σ[x.idx]? = some (some v)) (ho : o p = some x.idx) (hu : im u = false) (hr : (x.rt Γ).rel G (upd H p u) v y (fun a => o a = some x.idx)) :
    Ok C Γ (x.set (some y) s) σ G (upd H p u) o := by
  obtain ⟨hG, ⟨ob0, hp, hi⟩, hf⟩ := k.own p (by rw [ho]; simp)
  refine ⟨k.g, fun a ob e => ?_, k.new, fun a ob nm e => ?_, fun a e => ?_, fun a ob e i => ?_, fun a ha => ?_, k.len, Var.split x (fun z hz => ?_) fun β z hz w hw => ?_⟩
  · rw [upd_ne (fun z => by rw [z, hG] at e; cases e)]; exact k.gh a ob e
  · have : a ≠ p := fun z => by
      rw [z] at nm e
      rcases hf with q | q
      · exact nm q
      · rw [q] at e; cases e
    rw [upd_ne this]; exact k.fr a ob nm e
  · by_cases z : a = p
    · rw [z, upd_same]; simp
    · rw [upd_ne z]; exact k.dom a e
  · have h1 := k.imm a ob e i
    have : a ≠ p := fun z => by
      rw [z, hp] at h1
      cases h1; rw [hi] at i; cases i
    rw [upd_ne this]; exact h1
  · obtain ⟨h1, h2, h4⟩ := k.own a ha
    refine ⟨h1, ?_, h4⟩
    by_cases z : a = p
    · rw [z]; exact ⟨u, upd_same, hu⟩
    · rw [upd_ne z]; exact h2
  · rw [Var.get_set] at hz
    cases hz
    exact ⟨v, hσ, hr⟩
  · rw [Var.get_ne x z _ _ hz] at hw
    obtain ⟨v', e, r⟩ := k.sl β z w hw
    refine ⟨v', e, (z.rt Γ).grow r (Ex.refl _) fun a ha => ?_⟩
    have ha' : o a = some z.idx := ha
    rw [upd_ne (fun q => by rw [q, ho] at ha'; exact hz (Option.some.inj ha').symm)]
end
section
variable {K : Fr} {α β : Type}
def RT.at (v0 : V) (R : RT K α) : RT K α where
  rel := fun G H v x A => v = v0 ∧ R.rel G H v x A
  shr := fun G v x => v = v0 ∧ R.shr G v x
  fix := R.fix
  hold := R.hold
  grow := fun ⟨e, h⟩ g f => ⟨e, R.grow h g f⟩
  view := fun ⟨e, h⟩ g f => ⟨e, R.view h g f⟩
  smono := fun ⟨e, h⟩ g => ⟨e, R.smono h g⟩
  wid := fun ⟨e, h⟩ f => ⟨e, R.wid h f⟩
  ok := by
    rcases R.ok with ⟨f, k⟩ | ⟨f, k⟩
    · exact .inl ⟨f, fun G H v x A => ⟨fun h => ⟨h.1, (k G H v x A).mp h.2⟩, fun h => ⟨h.1, (k G H v x A).mpr h.2⟩⟩⟩
    · exact .inr ⟨f, fun hh G G' H v x A h e => ⟨h.1, k hh G G' H v x A h.2 e⟩⟩
/-- R is S at the values it speaks of -/
structure Sub (R S : RT K α) : Prop where
  to : ∀ {G H : Hp} {v : V} {x : α} {A : Addr → Prop}, R.rel G H v x A → S.rel G H v x A
  of : ∀ {G H G' H' : Hp} {v : V} {x y : α} {A B : Addr → Prop}, R.rel G H v x A → S.rel G' H' v y B → R.rel G' H' v y B
  fx : R.fix = S.fix
theorem Sub.refl {R : RT K α} : Sub R R := ⟨fun h => h, fun _ h => h, rfl⟩
theorem Sub.at {v0 : V} {R : RT K α} : Sub (RT.at v0 R) R := ⟨fun h => h.2, fun h k => ⟨h.1, k⟩, rfl⟩
end
section
variable {X : Cx} {αs : List Type} {Γ Γ1 Γ2 Γ' Γt : RTs X.K αs} {α β γ ρ : Type} {e e2 i a b c tg : Expr} {pos pos' pn : Pos} {P : Pk X.K αs ρ} {n n' : Str}
noncomputable def setAt {α : Type} : List α → Int → α → Option (List α) := (Seal fun (xs : List α) (i : Int) (v : α) => (ixN xs.length i).map fun j => xs.set j v).1
theorem setAt_eq {α : Type} (xs : List α) (i : Int) (v : α) : setAt xs i v = (ixN xs.length i).map fun j => xs.set j v := by unfold setAt; rw [(Seal _).2]
noncomputable def sSetI (x : Var αs (List α)) (mi : M αs Int) (me : M αs α) : MS αs ρ := fun s => (me s).bind fun p => (x.get p.2).bind fun _ => (mi p.2).bind fun q => (x.get q.2).bind fun xs => (setAt xs q.1 p.1).bind fun ys => some (.nx, x.set (some ys) q.2)
/-- what an own slot holds -/
theorem Ok.ownAt [Enc α] [PureE α] {C : C0} {s : Env αs} {σ : L2.St} {G H : Hp} {o : Addr → Option Nat} (k : Ok C Γ s σ G H o) {x : Var αs (List α)} (hx : Sub (x.rt Γ) (RT.own X.K α)) {xs : List α} (h : x.get s = some xs) :
    ∃ p vs, σ[x.idx]? = some (some (.ref p)) ∧ o p = some x.idx ∧ H p = some (.lst vs) ∧ All2 (fun v x => Dq X.K G v (enc x)) vs xs ∧ (x.rt Γ).rel G H (.ref p) xs (fun a => o a = some x.idx) := by
  obtain ⟨v, e, r⟩ := k.sl _ x xs h
  obtain ⟨p, vs, rfl, hp, hh, hr⟩ := hx.to r
  exact ⟨p, vs, e, hp, hh, hr, r⟩
theorem XS.setI [Enc α] [PureE α] {x : Var αs (List α)} {mi : M αs Int} {me : M αs α} (hpe : PE X (.Name n pn) (tVar x.idx)) (hx : Sub (x.rt Γ) (RT.own X.K α)) (he : XE X Γ e (RT.dat X.K α) me) (hi : XE X Γ i (RT.dat X.K Int) mi)
    (hg : PG X (.Subscript (.Name n pn) i pos') (gSub (tVar x.idx) (wE X i) rSetL) := by exact pg_sub (pv _) pe_w set_list)
    (hs : swapsWithSole [.Subscript (.Name n pn) i pos'] e pos.line X.env = pure false := by rfl) (hw : swappedStores [.Subscript (.Name n pn) i pos'] e X.env = pure none := by rfl)
    (h1 : (assignEach [.Subscript (.Name n pn) i pos'] X.env).map (·.2) = [assign (.Subscript (.Name n pn) i pos') X.env] := by rfl) :
    XS X P Γ Γ (.Assign [.Subscript (.Name n pn) i pos'] e pos) (sSetI x mi me) := by
  intro C s σ G H o k cc sE hm D fin
  obtain ⟨⟨v, s1⟩, e1, e2⟩ := bindE hm
  obtain ⟨xs0, e0, e2⟩ := bindE e2
  obtain ⟨⟨j, s2⟩, e3, e4⟩ := bindE e2
  obtain ⟨xs, e5, e6⟩ := bindE e4
  obtain ⟨ys, e7, e8⟩ := bindE e6
  cases e8
  refine wS_of (ps_asg pe_w hg hs hw h1) ?_
  refine he C s σ G H o k v s1 e1 _ fun w G1 H1 o1 B k1 g1 kp1 r1 t1 => ?_
  obtain ⟨p0, _, h0, _⟩ := k1.ownAt hx e0
  refine ⟨_, h0, ?_⟩
  refine hi C s1 σ G1 H1 o1 k1 j s2 e3 _ fun u G2 H2 o2 B2 k2 g2 kp2 r2 t2 => ?_
  cases dq_int r2
  obtain ⟨p, vs, h1, h2, h3, h4, h9⟩ := k2.ownAt hx e5
  rw [h0] at h1; cases h1
  rw [setAt_eq] at e7
  obtain ⟨jn, h5, h6⟩ := Option.map_eq_some_iff.mp e7
  subst h6
  refine ⟨p0, vs, j, jn, rfl, rfl, h3, by rw [h4.len]; exact h5, ?_⟩
  exact fin σ G2 _ o2 (k2.mut x h0 h2 rfl (hx.of h9 ⟨p0, _, rfl, h2, upd_same, All2.set (P := fun v x => Dq X.K G2 v (enc x)) (dq_mono g2 r1) jn h4⟩))
/-- x.append(e) -/
def sApp (x : Var αs (List α)) (me : M αs α) : MS αs ρ := fun s => (x.get s).bind fun _ => (me s).bind fun p => (x.get p.2).bind fun xs => if xs.length < 1000000 then some (.nx, x.set (some (xs ++ [p.1])) p.2) else none
theorem XS.app [Enc α] [PureE α] {x : Var αs (List α)} {me : M αs α} {apos cpos : Pos} (hpe : PE X (.Name n pn) (tVar x.idx)) (hx : Sub (x.rt Γ) (RT.own X.K α)) (he : XE X Γ e (RT.dat X.K α) me)
    (hp : PE X (.Call (.Attribute (.Name n pn) "append" apos) [e] [] cpos) (tBM X.K "list" rAppend (tVar x.idx) (tCons (wE X e) tNil)) := by exact pe_bm PySem.F.plainAttrs_list PySem.F.slot_list_append PySem.F.type_list_append mt_append (pv _) (pa_cons pe_w pa_nil (star_cons rfl)))
    (hs : swapsWith (.Call (.Attribute (.Name n pn) "append" apos) [e] [] cpos) none pos.line X.env = pure false := by rfl) : XS X P Γ Γ (.Expr (.Call (.Attribute (.Name n pn) "append" apos) [e] [] cpos) pos) (sApp x me) := by
  intro C s σ G H o k cc sE hm D fin
  obtain ⟨xs0, e0, e2⟩ := bindE hm
  obtain ⟨⟨v, s1⟩, e1, e2⟩ := bindE e2
  obtain ⟨xs, e5, e6⟩ := bindE e2
  have e7 := ite_some e6.symm.symm
  obtain ⟨hl, e8⟩ := e7
  cases e8
  refine wS_of (ps_expr hp hs) ?_
  obtain ⟨p0, vs0, h0, _, h00, _, _⟩ := k.ownAt hx e0
  refine ⟨_, h0, .inl ⟨rfl, _, SqL.of h00⟩, ?_⟩
  refine he C s σ G H o k v s1 e1 _ fun w G1 H1 o1 B k1 g1 kp1 r1 t1 => ?_
  obtain ⟨p, vs, h1, h2, h3, h4, h9⟩ := k1.ownAt hx e5
  rw [h0] at h1; cases h1
  refine ⟨p0, vs, w, rfl, rfl, h3, by rw [h4.len]; exact Nat.lt_trans hl (by decide), ?_⟩
  exact fin σ G1 _ o1 (k1.mut x h0 h2 rfl (hx.of h9 ⟨p0, _, rfl, h2, upd_same, All2.app (P := fun v x => Dq X.K G1 v (enc x)) h4 ⟨r1, trivial⟩⟩))
/-- name op= e, ints -/
def sAug (x : Var αs Int) (f : Int → Int → Option Int) (me : M αs Int) : MS αs ρ := fun s => (x.get s).bind fun a => (me s).bind fun p => (f a p.1).bind fun c => some (.nx, x.set (some c) p.2)
/-- a target of any form -/
def sAsgG (f : α → Env αs → Env αs) (m : M αs α) : MS αs ρ := fun s => (m s).bind fun p => some (.nx, f p.1 p.2)
theorem XS.asgG {R : RT X.K α} {vs : List Nat} {f : α → Env αs → Env αs} {m : M αs α} (hR : R.fix = true) (he : XE X Γ e R m) (hg : XG X Γ Γ' tg R vs f)
    (hs : swapsWithSole [tg] e pos.line X.env = pure false := by rfl) (hw : swappedStores [tg] e X.env = pure none := by rfl) (h1 : (assignEach [tg] X.env).map (·.2) = [assign tg X.env] := by rfl) : XS X P Γ Γ' (.Assign [tg] e pos) (sAsgG f m) := by
  intro C s σ G H o k cc sE hm D fin
  obtain ⟨⟨y, s1⟩, e1, e2⟩ := bindE hm
  cases e2
  refine wS_of (ps_asg pe_w pg_w hs hw h1) ?_
  refine he C s σ G H o k y s1 e1 _ fun w G1 H1 o1 B k1 g1 kp1 r1 t1 => ?_
  exact hg C s1 σ G1 H1 o1 k1 w y ((cpy_of hR _ _ _ _ _).mp r1) _ fun σ' o' k' _ => fin σ' G1 H1 o' k'
/-- two expressions, each perhaps one's own -/
theorem two {R1 : RT X.K α} {R2 : RT X.K β} {m : M αs α} {l : M αs β} (h1 : XE X Γ e R1 m) (h2 : XE X Γ e2 R2 l) (C : C0) (s : Env αs) (σ : L2.St) (G H : Hp) (o : Addr → Option Nat) (k : Ok C Γ s σ G H o) (x : α) (s1 : Env αs) (y : β) (s2 : Env αs) (a1 : m s = some (x, s1)) (a2 : l s1 = some (y, s2))
    {Q : V → V → Hp → Prop} (q : ∀ (v u : V) (G' H' : Hp) (o' : Addr → Option Nat) (B B' : Addr → Prop), Ok C Γ s2 σ G' H' o' → Ex G G' → Kp Γ s s2 → R1.rel G' H' v x B → R2.rel G' H' u y B' → Tmp C B G' H' o' → Tmp C B' G' H' o' → (∀ a, B a → ¬ B' a) → Q v u H') :
    wE X e σ H fun v H1 => wE X e2 σ H1 fun u H2 => Q v u H2 := by
  refine h1 C s σ G H o k x s1 a1 _ fun v G1 H1 o1 B k1 g1 kp1 r1 t1 => ?_
  refine h2 _ s1 σ G1 H1 o1 k1.re y s2 a2 _ fun u G2 H2 o2 B2 k2 g2 kp2 r2 t2 => ?_
  have hb : ∀ a, B a → ∃ ob, H1 a = some ob ∧ H2 a = some ob ∧ im ob = false ∧ o2 a = none ∧ G2 a = none := fun a ha => by
    obtain ⟨h1, h2, ⟨ob, h3, h4⟩, h5⟩ := t1 a ha
    have n : ¬ (reC G1 H1 o1).M0 a := fun z => z h1
    refine ⟨ob, h3, k2.fr a ob n h3, h4, ?_, k2.new a n (by show H1 a ≠ none; rw [h3]; simp) h2⟩
    cases z : o2 a with
    | none => rfl
    | some j =>
      rcases (k2.own a (by rw [z]; simp)).2.2 with w | w
      · exact absurd h1 w
      · have w' : H1 a = none := w
        rw [h3] at w'; cases w'
  refine q v u G2 H2 o2 B B2 (k1.back k2) (g1.trans g2) (kp1.trans kp2) (R1.grow r1 g2 fun a ha => ?_) r2 (fun a ha => ?_) (Tmp.back k1 t2) fun a ha hb2 => ?_
  · obtain ⟨ob, h3, h4, _⟩ := hb a ha
    rw [h3, h4]
  · obtain ⟨ob, h3, h4, h5, h6, h7⟩ := hb a ha
    exact ⟨h6, h7, ⟨ob, h4, h5⟩, (t1 a ha).2.2.2⟩
  · obtain ⟨ob, h3, _⟩ := hb a ha
    rcases (t2 a hb2).2.2.2 with w | w
    · exact w (t1 a ha).1
    · have w' : H1 a = none := w
      rw [h3] at w'; cases w'
/-- a, b = e, e2 -/
def sPar (x : Var αs α) (y : Var αs β) (m : M αs α) (l : M αs β) : MS αs ρ := fun s => (m s).bind fun p => (l p.2).bind fun q => some (.nx, y.set (some q.1) (x.set (some p.1) q.2))
theorem XS.par {R1 : RT X.K α} {R2 : RT X.K β} {m : M αs α} {l : M αs β} {x : Var αs α} {y : Var αs β} {px py pt pt2 : Pos} {kt k2} (hc : X.calm = true) (hN : X.N.Nodup) (hi : X.N[x.idx]? = some n) (hj : X.N[y.idx]? = some n') (hij : x.idx ≠ y.idx)
    (hx : X.env.scope.names.lookup n = some .local) (hy : X.env.scope.names.lookup n' = some .local) (h1 : XE X Γ e R1 m) (h2 : XE X Γ e2 R2 l)
    (hw : swappedStores [.Tuple [.Name n px, .Name n' py] kt pt] (.Tuple [e, e2] k2 pt2) X.env = pure (some [n, n']))
    (hp : PA X [e, e2] (tCons (wE X e) (tCons (wE X e2) tNil)) := by exact pa_cons pe_w (pa_cons pe_w pa_nil (star_cons rfl)) (star_cons rfl))
    (hs : swapsWithSole [.Tuple [.Name n px, .Name n' py] kt pt] (.Tuple [e, e2] k2 pt2) pos.line X.env = pure false := by rfl) :
    XS X P Γ (y.setR R2 (x.setR R1 Γ)) (.Assign [.Tuple [.Name n px, .Name n' py] kt pt] (.Tuple [e, e2] k2 pt2) pos) (sPar x y m l) := by
  intro C s σ G H o k cc sE hm D fin
  obtain ⟨⟨v1, s1⟩, e1, e3⟩ := bindE hm
  obtain ⟨⟨v2, s2⟩, e4, e5⟩ := bindE e3
  cases e5
  refine wS_of (ps_par hc hN hi hj hij hx hy hp hw hs) ?_
  refine two h1 h2 C s σ G H o k v1 s1 v2 s2 e1 e4 fun v u G1 H1 o1 B B' k1 g1 kp r1 r2 t1 t2 ds => ?_
  have ka := k1.set' x R1 r1 t1
  have kb := ka.set' y R2 r2 fun a ha => ⟨setO_none (fun hb => ds a hb ha) (t2 a ha).1, (t2 a ha).2⟩
  exact ⟨v, u, rfl, fin _ G1 H1 _ kb⟩
end
end Sm
namespace Sm
open PySem PySem.Spec L2
open Enc (enc)
def nones : (ls : List Type) → Env ls
  | [] => ()
  | _ :: r => (none, nones r)
def ext (ls : List Type) : (ps : List Type) → Env ps → Env (ps ++ ls)
  | [], _ => nones ls
  | _ :: ps, s => (s.1, ext ls ps s.2)
def prj (ls : List Type) : (ps : List Type) → Env (ps ++ ls) → Env ps
  | [], _ => ()
  | _ :: ps, s => (s.1, prj ls ps s.2)
def Var.inj (ls : List Type) : {ps : List Type} → {α : Type} → Var ps α → Var (ps ++ ls) α
  | _, _, .vz => .vz
  | _, _, .vs x => .vs (x.inj ls)
theorem Var.inj_idx (ls : List Type) : ∀ {ps : List Type} {α : Type} (x : Var ps α), (x.inj ls).idx = x.idx
  | _, _, .vz => rfl
  | _, _, .vs x => congrArg (· + 1) (x.inj_idx ls)
theorem Var.inj_get (ls : List Type) : ∀ {ps : List Type} {α : Type} (x : Var ps α) (s : Env (ps ++ ls)), (x.inj ls).get s = x.get (prj ls ps s)
  | _, _, .vz, _ => rfl
  | _, _, .vs x, s => x.inj_get ls s.2
theorem prj_ext (ls : List Type) : ∀ (ps : List Type) (s : Env ps), prj ls ps (ext ls ps s) = s
  | [], _ => rfl
  | _ :: ps, s => congrArg (Prod.mk s.1) (prj_ext ls ps s.2)
theorem nones_get : ∀ {ls : List Type} {α : Type} (x : Var ls α), x.get (nones ls) = none
  | _, _, .vz => rfl
  | _, _, .vs x => nones_get x
theorem Var.inj_or (ls : List Type) : ∀ (ps : List Type) {α : Type} (y : Var (ps ++ ls) α) (s : Env ps), (∃ x : Var ps α, y = x.inj ls) ∨ y.get (ext ls ps s) = none
  | [], _, y, _ => .inr (nones_get y)
  | _ :: ps, _, .vz, _ => .inl ⟨.vz, rfl⟩
  | _ :: ps, _, .vs y, s => by
    rcases Var.inj_or ls ps y s.2 with ⟨x, rfl⟩ | h
    · exact .inl ⟨.vs x, rfl⟩
    · exact .inr h
/-- where a def hands out no exception when none is promised -/
class NoX (CX : CXT) : Prop where
  no : ∀ {st : List PySem.Env} {H : Hp} {s : Shared} {u : Value} {s' : Shared}, CX st H s E0 u s' → False
instance : NoX CX0 := ⟨fun h => h⟩
theorem passE {CX : CXT} [NoX CX] {X : Cx} : Passes CX X E0 := fun _ _ _ _ _ _ _ h => (NoX.no h).elim
structure Fs (K : Fr) where
  ps : List Type
  Γp : RTs K ps
  Γo : RTs K ps
  ρ : Type
  R : RT K ρ
  f : Env ps → Option (ρ × Env ps)
def spF {K : Fr} (F : Fs K) : Sp := fun vs H Q _ => ∃ (G : Hp) (o : Addr → Option Nat) (s : Env F.ps) (r : F.ρ) (s' : Env F.ps), Ok (reC G H o) F.Γp s (vs.map some) G H o ∧ F.f s = some (r, s') ∧
  ∀ (v : V) (G' H' : Hp) (o' : Addr → Option Nat) (B : Addr → Prop), Ok (reC G H o) F.Γo s' (vs.map some) G' H' o' → F.R.rel G' H' v r B → Tmp (reC G H o) B G' H' o' → Q v H'
theorem spF_len {K : Fr} {F : Fs K} {vs : List V} {H : Hp} {Q : VK} {E : XK} (h : spF F vs H Q E) : vs.length = F.ps.length := by
  obtain ⟨G, o, s, r, s', k, _⟩ := h
  have := k.len
  simpa using this
/-- the parameters' kinds within the body, at the entry values vs -/
def PIn {K : Fr} (ls : List Type) : (ps : List Type) → RTs K ps → RTs K (ps ++ ls) → List V → Prop
  | [], _, _, _ => True
  | α :: ps, Γ, Δ, vs => (∀ (v : V) (G H : Hp) (x : α) (A : Addr → Prop), vs.head? = some v → (show RT K α from Γ.1).rel G H v x A → (show RT K α from Δ.1).rel G H v x A) ∧ PIn ls ps Γ.2 Δ.2 vs.tail
def POut {K : Fr} (ls : List Type) : (ps : List Type) → RTs K ps → RTs K (ps ++ ls) → List V → Prop
  | [], _, _, _ => True
  | α :: ps, Γ, Δ, vs => (∀ (v u : V) (G H : Hp) (x : α) (A : Addr → Prop), vs.head? = some v → (show RT K α from Δ.1).rel G H u x A → (show RT K α from Γ.1).rel G H v x A) ∧ POut ls ps Γ.2 Δ.2 vs.tail
theorem PIn.get {K : Fr} {ls : List Type} : ∀ {ps : List Type} {Γ : RTs K ps} {Δ : RTs K (ps ++ ls)} {vs : List V}, PIn ls ps Γ Δ vs → ∀ {α : Type} (x : Var ps α) (v : V) (G H : Hp) (a : α) (A : Addr → Prop), vs[x.idx]? = some v → (x.rt Γ).rel G H v a A → ((x.inj ls).rt Δ).rel G H v a A
  | _, _, _, vs, h, _, .vz, v, G, H, a, A, e, r => h.1 v G H a A (by cases vs with
      | nil => cases e
      | cons u us => exact e) r
  | _, _, _, vs, h, _, .vs x, v, G, H, a, A, e, r => PIn.get h.2 x v G H a A (by cases vs with
      | nil => simp at e
      | cons u us => simpa [Var.idx] using e) r
theorem POut.get {K : Fr} {ls : List Type} : ∀ {ps : List Type} {Γ : RTs K ps} {Δ : RTs K (ps ++ ls)} {vs : List V}, POut ls ps Γ Δ vs → ∀ {α : Type} (x : Var ps α) (v u : V) (G H : Hp) (a : α) (A : Addr → Prop), vs[x.idx]? = some v → ((x.inj ls).rt Δ).rel G H u a A → (x.rt Γ).rel G H v a A
  | _, _, _, vs, h, _, .vz, v, u, G, H, a, A, e, r => h.1 v u G H a A (by cases vs with
      | nil => cases e
      | cons u us => exact e) r
  | _, _, _, vs, h, _, .vs x, v, u, G, H, a, A, e, r => POut.get h.2 x v u G H a A (by cases vs with
      | nil => simp at e
      | cons u us => simpa [Var.idx] using e) r
def bodyF {ps ls : List Type} {ρ : Type} (m : MS (ps ++ ls) ρ) : Env ps → Option (ρ × Env ps) := fun s => (m (ext ls ps s)).bind fun p => match p.1 with
  | .rt r => some (r, prj ls ps p.2)
  | _ => none
section
variable {Pr : Program} {w : World} {K : Fr} {mg : Str → Option Value} {base : Heap}
/-- THE RULE for a def -/
theorem fs_ok {x qual : Str} {st : Stmt} {f : Addr} {fd : FuncData} {N qs : List Str} {k : Nat} (F : Fun K x qual st f fd) (S : FnScope N qs (defScope st)) {ps ls : List Type} {ρ : Type} {Γp Γo : RTs K ps} {R : RT K ρ} {m : MS (ps ++ ls) ρ}
    (hq : qs.length = ps.length) (hN : N.length = (ps ++ ls).length)
    (hbody : ∀ (cdv : Value) (A : Around) (outer : List PySem.Env) (s : Shared) (H : Hp) (vs : List V) (E : XK), vs.length = ps.length → Room k (A.deeper (PyProof.Rows.envOfC qual (defScope st) s.heap.objs.size f cdv)) →
      ∃ (Γ0 Γr Γ1 : RTs K (ps ++ ls)), PIn ls ps Γp Γ0 vs ∧ POut ls ps Γo Γr vs ∧ XSs (cxOf CX0 Pr w K mg base N qual (defScope st) f cdv A outer s H E).nox ⟨R, Γr, Γ0, retF⟩ Γ0 Γ1 (defBody st) m) :
    FnOk Pr w K mg base CX0 (k + 1) f fd qs (spF ⟨ps, Γp, Γo, ρ, R, bodyF m⟩) := by
  refine F.ok S (fun vs H Q E h => by rw [hq]; exact spF_len h) fun cdv A outer s H vs Q E hr h => ⟨_, pss_w, ?_⟩
  have hl := spF_len h
  obtain ⟨G, o, e, r, e', k0, hf, q⟩ := h
  obtain ⟨Γ0, Γr, Γ1, hin, hout, hb⟩ := hbody cdv A outer s H vs E hl hr
  obtain ⟨⟨c, s2⟩, e1, e2⟩ := bindE (show (m (ext ls ps e)).bind _ = some (r, e') from hf)
  have hs : ∀ i, i < vs.length → (L2.start N vs)[i]? = (vs.map some)[i]? := fun i hi => by
    unfold L2.start
    rw [List.getElem?_append_left (by simpa using hi)]
  have kS : Ok (reC G H o) Γ0 (ext ls ps e) (L2.start N vs) G H o := by
    refine ⟨k0.g, k0.gh, k0.new, k0.fr, k0.dom, k0.imm, k0.own, ?_, fun α y a hy => ?_⟩
    · unfold L2.start
      rw [List.length_append, List.length_map, List.length_replicate]
      have hl' : vs.length = ps.length := hl
      rw [List.length_append] at hN ⊢
      omega
    · rcases Var.inj_or ls ps y e with ⟨x, rfl⟩ | h
      · rw [Var.inj_get, prj_ext] at hy
        obtain ⟨v, h1, h2⟩ := k0.sl α x a hy
        have hx : x.idx < vs.length := by rw [hl]; exact x.lt
        rw [Var.inj_idx]
        refine ⟨v, by rw [hs _ hx]; exact h1, hin.get x v G H a _ ?_ h2⟩
        rw [List.getElem?_map] at h1
        cases z : vs[x.idx]? with
        | none => rw [z] at h1; cases h1
        | some u => rw [z] at h1; cases h1; rfl
      · rw [h] at hy; cases hy
  refine hb (reC G H o) (ext ls ps e) (L2.start N vs) G H o kS c s2 e1 _ ?_
  cases c with
  | nx => cases e2
  | bk => cases e2
  | ct => cases e2
  | rt r' =>
    cases e2
    intro σ' v G' H' o' B k' r1 t1
    refine q v G' H' o' B ⟨k'.g, k'.gh, k'.new, k'.fr, k'.dom, k'.imm, k'.own, k0.len, fun α x a hx => ?_⟩ r1 t1
    have hx' : (x.inj ls).get s2 = some a := by rw [Var.inj_get]; exact hx
    obtain ⟨u, h1, h2⟩ := k'.sl α (x.inj ls) a hx'
    have hxl : x.idx < vs.length := by rw [hl]; exact x.lt
    refine ⟨vs[x.idx], by rw [List.getElem?_map, List.getElem?_eq_getElem hxl]; rfl, ?_⟩
    rw [Var.inj_idx] at h2
    exact hout.get x _ u G' H' a _ (List.getElem?_eq_getElem hxl) h2
end
/-- how the arguments are given: by value, or a slot that the def may change -/
inductive Ks (αs : List Type) : List Type → Type 1
  | nil : Ks αs []
  | v {α : Type} {r : List Type} : Ks αs r → Ks αs (α :: r)
  | m {α : Type} {r : List Type} : Var αs α → Ks αs r → Ks αs (α :: r)
namespace Ks
def put {αs : List Type} : {ps : List Type} → Ks αs ps → Env ps → Env αs → Env αs
  | _, .nil, _, s => s
  | _, .v k, as, s => k.put as.2 s
  | _, .m x k, as, s => x.set as.1 (k.put as.2 s)
def at_ {αs : List Type} : {ps : List Type} → Ks αs ps → Nat → Option Nat
  | _, .nil, _ => none
  | _, .v k, i => (k.at_ i).map (· + 1)
  | _, .m x k, i => if x.idx = i then some 0 else (k.at_ i).map (· + 1)
def sl {αs : List Type} : {ps : List Type} → Ks αs ps → Nat → Option Nat
  | _, .nil, _ => none
  | _, .v _, 0 => none
  | _, .v k, j + 1 => k.sl j
  | _, .m x _, 0 => some x.idx
  | _, .m _ k, j + 1 => k.sl j
def ixs {αs : List Type} : {ps : List Type} → Ks αs ps → List Nat
  | _, .nil => []
  | _, .v k => k.ixs
  | _, .m x k => x.idx :: k.ixs
end Ks
/-- what stands behind the evaluated arguments -/
def AOk {K : Fr} {αs : List Type} (Γ : RTs K αs) (s : Env αs) (σ : L2.St) (G : Hp) : {ps : List Type} → Ks αs ps → RTs K ps → Env ps → List V → Prop
  | _, .nil, _, _, vs => vs = []
  | α :: _, .v k, Γp, as, vs => ∃ v r, vs = v :: r ∧ (show RT K α from Γp.1).fix = true ∧ (∀ a : α, as.1 = some a → (show RT K α from Γp.1).shr G v a) ∧ AOk Γ s σ G k Γp.2 as.2 r
  | α :: _, .m x k, Γp, as, vs => ∃ v r, vs = v :: r ∧ Sub (x.rt Γ) (show RT K α from Γp.1) ∧ (x.rt Γ).fix = false ∧ σ[x.idx]? = some (some v) ∧ (∃ a, x.get s = some a ∧ as.1 = some a) ∧ AOk Γ s σ G k Γp.2 as.2 r
section
variable {X : Cx} {αs : List Type} {Γ Γ1 Γ2 Γ' Γt : RTs X.K αs} {α β γ ρ : Type} {e a b c : Expr} {es : List Expr} {pos : Pos}
def XA (X : Cx) {αs : List Type} (Γ : RTs X.K αs) (es : List Expr) {ps : List Type} (k : Ks αs ps) (Γp : RTs X.K ps) (m : M αs (Env ps)) : Prop :=
  ∀ (C : C0) (s : Env αs) (σ : L2.St) (G H : Hp) (o : Addr → Option Nat), Ok C Γ s σ G H o → ∀ (as : Env ps) (s' : Env αs), m s = some (as, s') → ∀ Q : List V → Hp → Prop,
    (∀ (vs : List V) (G' H' : Hp) (o' : Addr → Option Nat), Ok C Γ s' σ G' H' o' → Ex G G' → Kp Γ s s' → AOk Γ s' σ G' k Γp as vs → Q vs H') → wA X es σ H Q
def aNil : M αs (Env []) := fun s => some ((), s)
def aV {r : List Type} (m : M αs α) (n : M αs (Env r)) : M αs (Env (α :: r)) := fun s => (m s).bind fun p => (n p.2).bind fun q => some ((some p.1, q.1), q.2)
def aM {r : List Type} (x : Var αs α) (n : M αs (Env r)) : M αs (Env (α :: r)) := fun s => (x.get s).bind fun _ => (n s).bind fun q => (x.get q.2).bind fun a => some ((some a, q.1), q.2)
theorem XA.nil : XA X Γ [] .nil () aNil := by
  intro C s σ G H o k as s' hm Q q
  cases hm
  exact wA_of pa_nil (q [] G H o k (Ex.refl _) .refl rfl)
theorem XA.v {r : List Type} {k : Ks αs r} {Γp : RTs X.K r} {R : RT X.K α} {m : M αs α} {n : M αs (Env r)} (hR : R.fix = true) (he : XE X Γ e R m) (hr : XA X Γ es k Γp n) (hs : starEach (e :: es) X.env = (false, eval e X.env) :: starEach es X.env := by exact star_cons rfl) :
    XA X Γ (e :: es) (.v k) (R, Γp) (aV m n) := by
  intro C s σ G H o k0 as s' hm Q q
  obtain ⟨⟨x, s1⟩, e1, e2⟩ := bindE hm
  obtain ⟨⟨xs, s2⟩, e3, e4⟩ := bindE e2
  cases e4
  refine wA_of (pa_cons pe_w pa_w hs) ?_
  refine he C s σ G H o k0 x s1 e1 _ fun v G1 H1 o1 B k1 g1 kp r1 t1 => ?_
  refine hr C s1 σ G1 H1 o1 k1 xs _ e3 _ fun vs G2 H2 o2 k2 g2 kp2 r2 => ?_
  refine q (v :: vs) G2 H2 o2 k2 (g1.trans g2) (kp.trans kp2) ⟨v, vs, rfl, hR, fun y hy => ?_, r2⟩
  cases hy
  exact R.smono ((cpy_of hR _ _ _ _ _).mp r1) g2
theorem XA.m {r : List Type} {k : Ks αs r} {Γp : RTs X.K r} {R : RT X.K α} {x : Var αs α} {n : M αs (Env r)} {nm : Str} {pn : Pos} (hpe : PE X (.Name nm pn) (tVar x.idx)) (hS : Sub (x.rt Γ) R) (hf : (x.rt Γ).fix = false) (hr : XA X Γ es k Γp n)
    (hs : starEach (.Name nm pn :: es) X.env = (false, eval (.Name nm pn) X.env) :: starEach es X.env := by exact star_cons rfl) : XA X Γ (.Name nm pn :: es) (.m x k) (R, Γp) (aM x n) := by
  intro C s σ G H o k0 as s' hm Q q
  obtain ⟨x0, e1, e2⟩ := bindE hm
  obtain ⟨⟨xs, s2⟩, e3, e4⟩ := bindE e2
  obtain ⟨y0, e5, e6⟩ := bindE e4
  cases e6
  obtain ⟨v, h0, _⟩ := k0.sl _ x x0 e1
  refine wA_of (pa_cons hpe pa_w hs) ⟨v, h0, ?_⟩
  exact hr C s σ G H o k0 xs _ e3 _ fun vs G2 H2 o2 k2 g2 kp2 r2 => q (v :: vs) G2 H2 o2 k2 g2 kp2 ⟨v, vs, rfl, hS, hf, h0, ⟨y0, e5, rfl⟩, r2⟩
theorem Var.idx_inj : ∀ {αs : List Type} {α : Type} (x y : Var αs α), x.idx = y.idx → x = y
  | _, _, .vz, .vz, _ => rfl
  | _, _, .vz, .vs y, h => by simp [Var.idx] at h
  | _, _, .vs x, .vz, h => by simp [Var.idx] at h
  | _, _, .vs x, .vs y, h => by rw [Var.idx_inj x y (by simpa [Var.idx] using h)]
theorem Ks.sl_mem : ∀ {ps : List Type} (k : Ks αs ps) {i j : Nat}, k.sl j = some i → i ∈ k.ixs
  | _, .nil, _, _, h => by cases h
  | _, .v k, i, 0, h => by cases h
  | _, .v k, i, j + 1, h => k.sl_mem (show k.sl j = some i from h)
  | _, .m x k, i, 0, h => by cases h; exact List.mem_cons_self
  | _, .m x k, i, j + 1, h => List.mem_cons_of_mem _ (k.sl_mem (show k.sl j = some i from h))
theorem Ks.sl_at : ∀ {ps : List Type} (k : Ks αs ps) {i j : Nat}, k.ixs.Nodup → k.sl j = some i → k.at_ i = some j
  | _, .nil, _, _, _, h => by cases h
  | _, .v k, i, 0, _, h => by cases h
  | _, .v k, i, j + 1, nd, h => by
    show (k.at_ i).map (· + 1) = some (j + 1)
    rw [k.sl_at nd (show k.sl j = some i from h)]; rfl
  | _, .m x k, i, 0, _, h => by
    cases h
    show (if x.idx = x.idx then some 0 else _) = some 0
    rw [if_pos rfl]
  | _, .m x k, i, j + 1, nd, h => by
    have nd' := List.nodup_cons.mp nd
    have h' : k.sl j = some i := h
    show (if x.idx = i then some 0 else (k.at_ i).map (· + 1)) = some (j + 1)
    rw [if_neg (fun (e : x.idx = i) => nd'.1 (by rw [e]; exact k.sl_mem h')), k.sl_at nd'.2 h']; rfl
theorem Ks.put_get : ∀ {ps : List Type} (k : Ks αs ps) (as : Env ps) (s : Env αs) (β : Type) (y : Var αs β), (∃ z : Var ps β, k.sl z.idx = some y.idx ∧ y.get (k.put as s) = z.get as) ∨ (k.at_ y.idx = none ∧ y.get (k.put as s) = y.get s)
  | _, .nil, _, _, _, _ => .inr ⟨rfl, rfl⟩
  | _, .v k, as, s, β, y => by
    rcases k.put_get as.2 s β y with ⟨z, h1, h2⟩ | ⟨h1, h2⟩
    · exact .inl ⟨.vs z, h1, h2⟩
    · exact .inr ⟨by show (k.at_ y.idx).map (· + 1) = none; rw [h1]; rfl, h2⟩
  | _, .m x k, as, s, β, y => by
    refine Var.split x (P := fun β y => (∃ z : Var _ β, (Ks.m x k).sl z.idx = some y.idx ∧ y.get ((Ks.m x k).put as s) = z.get as) ∨ ((Ks.m x k).at_ y.idx = none ∧ y.get ((Ks.m x k).put as s) = y.get s)) (.inl ⟨.vz, rfl, x.get_set _ _⟩) (fun β y hy => ?_) β y
    rcases k.put_get as.2 s β y with ⟨z, h1, h2⟩ | ⟨h1, h2⟩
    · exact .inl ⟨.vs z, h1, by show y.get (x.set as.1 (k.put as.2 s)) = _; rw [Var.get_ne x y _ _ hy]; exact h2⟩
    · refine .inr ⟨?_, by show y.get (x.set as.1 (k.put as.2 s)) = _; rw [Var.get_ne x y _ _ hy]; exact h2⟩
      show (if x.idx = y.idx then some 0 else (k.at_ y.idx).map (· + 1)) = none
      rw [if_neg (Ne.symm hy), h1]; rfl
theorem AOk.len {K : Fr} {Γ : RTs K αs} {s : Env αs} {σ : L2.St} {G : Hp} : ∀ {ps : List Type} {k : Ks αs ps} {Γp : RTs K ps} {as : Env ps} {vs : List V}, AOk Γ s σ G k Γp as vs → vs.length = ps.length
  | _, .nil, _, _, _, h => by cases (show _ = [] from h); rfl
  | _, .v k, _, _, _, h => by
    obtain ⟨v, r, rfl, _, _, h⟩ := h
    simp [AOk.len h]
  | _, .m x k, _, _, _, h => by
    obtain ⟨v, r, rfl, _, _, _, _, h⟩ := h
    simp [AOk.len h]
theorem AOk.var {K : Fr} {Γ : RTs K αs} {s : Env αs} {σ : L2.St} {G : Hp} : ∀ {ps : List Type} {k : Ks αs ps} {Γp : RTs K ps} {as : Env ps} {vs : List V}, AOk Γ s σ G k Γp as vs → ∀ (β : Type) (z : Var ps β), ∃ v, vs[z.idx]? = some v ∧
    ((k.sl z.idx = none ∧ (z.rt Γp).fix = true ∧ ∀ b, z.get as = some b → (z.rt Γp).shr G v b) ∨ ∃ (x : Var αs β) (a : β), k.sl z.idx = some x.idx ∧ Sub (x.rt Γ) (z.rt Γp) ∧ (x.rt Γ).fix = false ∧ σ[x.idx]? = some (some v) ∧ x.get s = some a ∧ z.get as = some a)
  | _, .nil, _, _, _, _, _, z => nomatch z
  | _, .v k, _, _, _, h, β, z => by
    obtain ⟨v, r, rfl, h1, h2, h⟩ := h
    cases z with
    | vz => exact ⟨v, rfl, .inl ⟨rfl, h1, h2⟩⟩
    | vs z =>
      obtain ⟨u, h3, h4⟩ := AOk.var h β z
      exact ⟨u, by simpa [Var.idx] using h3, h4⟩
  | _, .m x k, _, _, _, h, β, z => by
    obtain ⟨v, r, rfl, h1, h2, h3, ⟨a, h4, h5⟩, h⟩ := h
    cases z with
    | vz => exact ⟨v, rfl, .inr ⟨x, a, rfl, h1, h2, h3, h4, h5⟩⟩
    | vs z =>
      obtain ⟨u, h3, h4⟩ := AOk.var h β z
      exact ⟨u, by simpa [Var.idx] using h3, h4⟩
/-- the slots that a def may change keep their kind -/
def OM {K : Fr} : {ps : List Type} → Ks αs ps → RTs K ps → RTs K ps → Prop
  | _, .nil, _, _ => True
  | _, .v k, Γ, Δ => OM k Γ.2 Δ.2
  | α :: _, .m _ k, Γ, Δ => (show RT K α from Δ.1) = Γ.1 ∧ OM k Γ.2 Δ.2
theorem OM.get {K : Fr} : ∀ {ps : List Type} {k : Ks αs ps} {Γ Δ : RTs K ps}, OM k Γ Δ → ∀ (β : Type) (z : Var ps β), k.sl z.idx ≠ none → z.rt Δ = z.rt Γ
  | _, .nil, _, _, _, _, z, _ => nomatch z
  | _, .v k, Γ, Δ, h, β, z, n => by
    cases z with
    | vz => exact absurd rfl n
    | vs z => exact OM.get (k := k) h β z n
  | _, .m x k, Γ, Δ, h, β, z, n => by
    cases z with
    | vz => exact h.1
    | vs z => exact OM.get (k := k) h.2 β z n
theorem Ok.call {C : C0} {s : Env αs} {σ : L2.St} {G H : Hp} {o : Addr → Option Nat} (k : Ok C Γ s σ G H o) {ps : List Type} (κ : Ks αs ps) (nd : κ.ixs.Nodup) {Γp Γo : RTs X.K ps} (om : OM κ Γp Γo) {as : Env ps} {vs : List V} (a : AOk Γ s σ G κ Γp as vs) :
    ∃ oc : Addr → Option Nat, Ok (reC G H oc) Γp as (vs.map some) G H oc ∧ ∀ (as' : Env ps) (G' H' : Hp) (o' : Addr → Option Nat), Ok (reC G H oc) Γo as' (vs.map some) G' H' o' →
      ∃ o2, Ok C Γ (κ.put as' s) σ G' H' o2 ∧ Kp Γ s (κ.put as' s) ∧ ∀ B, Tmp (reC G H oc) B G' H' o' → Tmp C B G' H' o2 := by
  have hoc : ∀ a, (o a).bind κ.at_ ≠ none → o a ≠ none := fun a h e => h (by rw [e]; rfl)
  have get_vs : ∀ {i : Nat} {v : V}, vs[i]? = some v → (vs.map some)[i]? = some (some v) := fun h => by rw [List.getElem?_map, h]; rfl
  have of_vs : ∀ {i : Nat} {v u : V}, vs[i]? = some v → (vs.map some)[i]? = some (some u) → u = v := fun h h' => by
    rw [List.getElem?_map, h] at h'; cases h'; rfl
  refine ⟨fun a => (o a).bind κ.at_, ⟨Ex.refl _, k.gh, fun _ _ _ h => h, fun _ _ _ h => h, fun _ h => h, fun _ _ h _ => h, fun b hb => ⟨(k.own b (hoc b hb)).1, (k.own b (hoc b hb)).2.1, .inl hb⟩, by rw [List.length_map]; exact a.len, fun β z b hz => ?_⟩, fun as' G' H' o' k' => ?_⟩
  · obtain ⟨v, h1, h2⟩ := a.var β z
    refine ⟨v, get_vs h1, ?_⟩
    rcases h2 with ⟨_, h3, h4⟩ | ⟨x, y, h3, h4, h5, h6, h7, h8⟩
    · exact (cpy_of h3 _ _ _ _ _).mpr (h4 b hz)
    · have hyb : y = b := by rw [h8] at hz; exact Option.some.inj hz
      subst hyb
      obtain ⟨v', e, r⟩ := k.sl β x y h7
      rw [h6] at e; cases e
      refine (z.rt Γp).wid (h4.to r) fun q hq => ?_
      have hq' : o q = some x.idx := hq
      show (o q).bind κ.at_ = some z.idx
      rw [hq']
      exact κ.sl_at nd h3
  · have rev : ∀ b, ((o b).bind κ.at_ ≠ none ∨ H b = none) → C.M0 b ∨ C.H0 b = none := fun b h => by
      rcases h with h | h
      · exact k.free (.inl (hoc b h))
      · exact k.free (.inr h)
    have nM : ∀ b u, ¬ C.M0 b → C.H0 b = some u → ¬ (o b).bind κ.at_ ≠ none := fun b u n h z => by
      rcases k.free (H := H) (.inl (hoc b z)) with q | q
      · exact n q
      · rw [q] at h; cases h
    have keep : ∀ b i, o b = some i → κ.at_ i = none → (o b).bind κ.at_ = none ∧ o' b = none := fun b i h1 h2 => by
      have e : (o b).bind κ.at_ = none := by rw [h1]; exact h2
      refine ⟨e, ?_⟩
      cases z : o' b with
      | none => rfl
      | some j =>
        rcases (k'.own b (by rw [z]; simp)).2.2 with w | w
        · exact absurd e w
        · obtain ⟨_, ⟨ob, h, _⟩, _⟩ := k.own b (by rw [h1]; simp)
          have w' : H b = none := w
          rw [h] at w'; cases w'
    refine ⟨fun b => match (o' b).bind κ.sl with
      | some i => some i
      | none => if (o b).bind κ.at_ = none then o b else none, ?_, ?_, fun B tB b hb => ?_⟩
    · refine ⟨k.g.trans k'.g, k'.gh, fun b n h0 g0 => ?_, fun b ob n h0 => k'.fr b ob (nM b ob n h0) (k.fr b ob n h0), fun b h0 => k'.dom b (k.dom b h0), fun b ob h0 i => k'.imm b ob (k.imm b ob h0 i) i, fun b hb => ?_, k.len, fun β y b hy => ?_⟩
      · cases q : C.H0 b with
        | none => exact absurd q h0
        | some u => exact k'.new b (nM b u n q) (k.dom b h0) (k.new b n h0 g0)
      · cases q : (o' b).bind κ.sl with
        | some i =>
          have ne : o' b ≠ none := fun e => by rw [e] at q; cases q
          obtain ⟨h1, h2, h3⟩ := k'.own b ne
          exact ⟨h1, h2, rev b h3⟩
        | none =>
          simp only [q] at hb
          by_cases hz : (o b).bind κ.at_ = none
          · rw [if_pos hz] at hb
            obtain ⟨h1, ⟨ob, h2, h3⟩, h4⟩ := k.own b hb
            have nm : ¬ (reC G H fun a => (o a).bind κ.at_).M0 b := fun w => w hz
            exact ⟨k'.new b nm (by show H b ≠ none; rw [h2]; simp) h1, ⟨ob, k'.fr b ob nm h2, h3⟩, h4⟩
          · rw [if_neg hz] at hb; exact absurd rfl hb
      · rcases κ.put_get as' s β y with ⟨z, h1, h2⟩ | ⟨h1, h2⟩
        · rw [h2] at hy
          obtain ⟨v, h3, h4⟩ := a.var β z
          rcases h4 with ⟨h5, _⟩ | ⟨x, w, h5, h6, h7, h8, h9, h10⟩
          · rw [h5] at h1; cases h1
          · rw [h5] at h1
            have exy : x = y := Var.idx_inj x y (Option.some.inj h1)
            subst exy
            obtain ⟨u, e1, r1⟩ := k'.sl β z b hy
            cases of_vs h3 e1
            obtain ⟨u', e2, r2⟩ := k.sl β x w h9
            rw [h8] at e2; cases e2
            rw [om.get β z (by rw [h5]; simp)] at r1
            refine ⟨v, h8, (x.rt Γ).wid (h6.of r2 r1) fun q hq => ?_⟩
            have hq' : o' q = some z.idx := hq
            have e3 : (o' q).bind κ.sl = some x.idx := by rw [hq']; exact h5
            simp only [e3]
        · rw [h2] at hy
          obtain ⟨v, e, r⟩ := k.sl β y b hy
          refine ⟨v, e, (y.rt Γ).wid ((y.rt Γ).grow r k'.g fun q hq => ?_) fun q hq => ?_⟩
          · have hq' : o q = some y.idx := hq
            obtain ⟨e1, _⟩ := keep q _ hq' h1
            obtain ⟨_, ⟨ob, h3, _⟩, _⟩ := k.own q (by rw [hq']; simp)
            rw [h3, k'.fr q ob (fun w => w e1) h3]
          · have hq' : o q = some y.idx := hq
            obtain ⟨e1, e2⟩ := keep q _ hq' h1
            simp only [e2, Option.bind_none, e1, if_true]
            exact hq'
    · intro β y hf
      rcases κ.put_get as' s β y with ⟨z, h1, h2⟩ | ⟨h1, h2⟩
      · obtain ⟨v, h3, h4⟩ := a.var β z
        rcases h4 with ⟨h5, _⟩ | ⟨x, w, h5, h6, h7, h8, h9, h10⟩
        · rw [h5] at h1; cases h1
        · rw [h5] at h1
          have exy : x = y := Var.idx_inj x y (Option.some.inj h1)
          subst exy
          rw [h7] at hf; cases hf
      · exact h2
    · obtain ⟨h1, h2, h3, h4⟩ := tB b hb
      refine ⟨?_, h2, h3, rev b h4⟩
      simp only [h1, Option.bind_none]
      by_cases hz : (o b).bind κ.at_ = none
      · rw [if_pos hz]
        rcases h4 with w | w
        · exact absurd hz w
        · cases q : o b with
          | none => rfl
          | some i =>
            obtain ⟨_, ⟨ob, h, _⟩, _⟩ := k.own b (by rw [q]; simp)
            have w' : H b = none := w
            rw [h] at w'; cases w'
      · rw [if_neg hz]
/-- the program of a call -/
def mCall {ps : List Type} (κ : Ks αs ps) (f : Env ps → Option (ρ × Env ps)) (ma : M αs (Env ps)) : M αs ρ := fun s => (ma s).bind fun p => (f p.1).bind fun q => some (q.1, κ.put q.2 p.2)
theorem XE.callSp {ps : List Type} {Γp Γo : RTs X.K ps} {R : RT X.K ρ} {f : Env ps → Option (ρ × Env ps)} (κ : Ks αs ps) {ma : M αs (Env ps)} (nd : κ.ixs.Nodup) (om : OM κ Γp Γo) (hpe : PE X e (fun σ H Q => wA X es σ H fun vs H1 => spF ⟨ps, Γp, Γo, ρ, R, f⟩ vs H1 Q E0)) (ha : XA X Γ es κ Γp ma) :
    XE X Γ e R (mCall κ f ma) := by
  intro C s σ G H o k x s' hm Q q
  obtain ⟨⟨as, s1⟩, e1, e2⟩ := bindE hm
  obtain ⟨⟨r, as'⟩, e3, e4⟩ := bindE e2
  cases e4
  refine wE_of hpe ?_
  refine ha C s σ G H o k as s1 e1 _ fun vs G1 H1 o1 k1 g1 kp r1 => ?_
  obtain ⟨oc, k2, back⟩ := k1.call κ nd om r1
  refine ⟨G1, oc, as, _, as', k2, e3, fun v G' H' o' B k' rr t => ?_⟩
  obtain ⟨o2, k3, kp3, tB⟩ := back as' G' H' o' k'
  exact q v G' H' o2 B k3 (g1.trans k'.g) (kp.trans kp3) rr (tB B t)
/-- f(e, ..) -/
theorem XE.call {CX : CXT} [NoX CX] {ps : List Type} {Γp Γo : RTs X.K ps} {R : RT X.K ρ} {f : Env ps → Option (ρ × Env ps)} (κ : Ks αs ps) {ma : M αs (Env ps)} {fn : Addr} {fd : FuncData} {qs : List Str} {n : Nat} {x : Str} {p : Pos}
    (F : FnOk X.prog X.w X.K X.mg X.base CX n fn fd qs (spF ⟨ps, Γp, Γo, ρ, R, f⟩)) (hr : Room n X.A) (hg : Gl X x) (hm : X.mg x = some (.ref fn)) (hk : PySem.W.keepIn X.K (.ref fn) = true) (hb : Binds X.K fd qs []) (ha : XA X Γ (e :: es) κ Γp ma)
    (nd : κ.ixs.Nodup := by decide) (om : OM κ Γp Γo) (hdb : (x == ("__debug__" : Str)) = false := by decide) (he : starEach (e :: es) X.env = (false, eval e X.env) :: starEach es X.env := by exact star_cons rfl) (hpl : (backTo pos (starEach es X.env)).any (·.1) = false := by rfl) :
    XE X Γ (.Call (.Name x p) (e :: es) [] pos) R (mCall κ f ma) := by
  have h : PE X (.Call (.Name x p) (e :: es) [] pos) (tCall (spF ⟨ps, Γp, Γo, ρ, R, f⟩) [] E0 (wA X (e :: es))) := pe_call F hr hg hm hk hb .nil passE pa_w hdb he hpl
  refine XE.callSp κ nd om ⟨fun pins s σ H Q I hq => h.run pins s σ H Q I ?_⟩ ha
  refine ⟨fun pos pins s I => ?_⟩
  exact thn (hq.run pos pins s I) fun us s' ⟨vs, H', I', r, q⟩ => ⟨vs, H', I', r, by show spF _ (vs ++ []) H' Q E0; rw [List.append_nil]; exact q⟩
end
end Sm
namespace Sm
open PySem PySem.Spec L2
open Enc (enc)
section
variable {X : Cx} {αs : List Type} {Γ Γ1 Γ2 Γ' Γt : RTs X.K αs} {α β γ ρ : Type} {e a b c tg iter : Expr} {es : List Expr} {pos apos cpos : Pos}
def RT.scr (K : Fr) : RT K (List Int) where
  rel := fun G _ v ns _ => ∃ a, v = .ref a ∧ SqL K G a (ns.map V.int)
  shr := fun G v ns => ∃ a, v = .ref a ∧ SqL K G a (ns.map V.int)
  fix := true
  grow := fun ⟨a, e, h⟩ g _ => ⟨a, e, g.l h⟩
  view := fun ⟨a, e, h⟩ g _ => ⟨a, e, g.l h⟩
  smono := fun ⟨a, e, h⟩ g => ⟨a, e, g.l h⟩
  wid := fun h _ => h
  ok := .inl ⟨rfl, fun _ _ _ _ _ => Iff.rfl⟩
theorem atI_map {α β : Type} (f : α → β) (xs : List α) (i : Int) : atI (xs.map f) i = (atI xs i).map f := by
  unfold atI
  rw [List.length_map]
  cases ixN xs.length i with
  | none => rfl
  | some j =>
    show (xs.map f)[j]? = (xs[j]?).map f
    rw [List.getElem?_map]
theorem XE.idxScr {ma : M αs (List Int)} {mb : M αs Int} (ha : XE X Γ a (RT.scr X.K) ma) (hb : XE X Γ b (RT.dat X.K Int) mb) (hs : PlainIx b := by exact fun _ _ => rfl) : XE X Γ (.Subscript a b pos) (RT.dat X.K Int) (m2 Sm.idx ma mb) :=
  .bin (r := rIxL X.K) (pe_ix ix_list pe_w pe_w hs) ha hb rfl rfl fun G H v u x y z Q e hx hy hz q => by
    obtain ⟨p, rfl, hp⟩ := hx
    cases dq_int hy
    refine ⟨p, x.map V.int, y, .int z, rfl, rfl, e.l hp, ?_, here (z := z) e (.int _) q⟩
    rw [atI_map, show atI x y = some z from (idx_eq _ _).symm.trans hz]; rfl
theorem XE.lenScr {ma : M αs (List Int)} {p : Pos} (hg : Gl X "len") (hm : X.mg "len" = none) (ha : XE X Γ a (RT.scr X.K) ma)
    (he : starEach [a] X.env = [(false, eval a X.env)] := by exact star1 rfl) : XE X Γ (.Call (.Name "len" p) [a] [] pos) (RT.dat X.K Int) (m1 ilen ma) :=
  .un (r := fun v H Q => ∃ p ys, [v] = [V.ref p] ∧ (SqL X.K H p ys ∨ SqT X.K H p ys) ∧ Q (.int ys.length) H) (pe_callB call_len_seq hg hm PySem.boot_len (pa_cons pe_w pa_nil he) (he := he)) ha rfl fun G H v x z Q e hx hz q => by
    cases hz
    obtain ⟨p, rfl, hp⟩ := hx
    exact ⟨p, _, rfl, .inl (e.l hp), by rw [List.length_map]; exact here (z := (x.length : Int)) e (.int _) q⟩
theorem XE.neg {ma : M αs Int} (ha : XE X Γ a (RT.dat X.K Int) ma) : XE X Γ (.UnaryOp .USub a pos) (RT.dat X.K Int) (m1 ineg ma) :=
  .un (r := rU fun i => .int (-i)) (pe_un un_neg pe_w) ha rfl fun G H v x z Q e hx hz q => by
    cases hz
    cases dq_int hx
    exact ⟨x, rfl, here (z := -x) e (.int _) q⟩
theorem XE.dat [Enc α] [PureE α] {m : M αs (List α)} (h : XE X Γ e (RT.own X.K α) m) : XE X Γ e (RT.dat X.K (List α)) m := XE.freeze h
theorem idx_first [Enc α] [DecidableEq α] [EqE α] {xs : List α} {x : α} {j : Nat} (h : xs.findIdx? (· = x) = some j) : ∃ z, (xs.map enc)[j]? = some z ∧ PyData.eqv z (enc x) = true ∧ ∀ (m : Nat) (z' : PyData), m < j → (xs.map enc)[m]? = some z' → PyData.eqv z' (enc x) = false := by
  obtain ⟨hj, h1, h2⟩ := List.findIdx?_eq_some_iff_getElem.mp h
  refine ⟨enc xs[j], by rw [List.getElem?_map, List.getElem?_eq_getElem hj]; rfl, by rw [EqE.eqv]; simpa using h1, fun m z' hm hz => ?_⟩
  have hm' : m < xs.length := by omega
  rw [List.getElem?_map, List.getElem?_eq_getElem hm'] at hz
  cases hz
  rw [EqE.eqv]
  have := h2 m hm
  simpa using this
theorem XE.index [Enc α] [DecidableEq α] [EqE α] [Lay α] {ma : M αs (List α)} {mb : M αs α} (ha : XE X Γ a (RT.dat X.K (List α)) ma) (hb : XE X Γ b (RT.dat X.K α) mb) (hu : X.A.units + 65 < cLine)
    (hp : PE X (.Call (.Attribute a "index" apos) [b] [] cpos) (tBM X.K "list" (rIndexD X.K) (wE X a) (tCons (wE X b) tNil)) := by exact pe_bm PySem.F.plainAttrs_list PySem.F.slot_list_index PySem.F.type_list_index (mt_indexD (by assumption)) pe_w (pa_cons pe_w pa_nil (star_cons rfl))) (hd : Lay.dep α + 1 ≤ 64 := by decide) :
    XE X Γ (.Call (.Attribute a "index" apos) [b] [] cpos) (RT.dat X.K Int) (m2 indexOf ma mb) := by
  intro C s σ G H o k z s' hm Q q
  obtain ⟨x, s1, y, h1, h2, h3⟩ := m2E hm
  obtain ⟨j, h4, h5⟩ := Option.map_eq_some_iff.mp h3
  subst h5
  refine wE_of hp ?_
  refine ha C s σ G H o k x s1 h1 _ fun v G1 H1 o1 B k1 g1 kp r1 t1 => ?_
  obtain ⟨p, vs, rfl, hp', hr⟩ := dq_list r1
  refine ⟨.inl ⟨rfl, vs, SqL.of (k1.gh _ _ hp')⟩, ?_⟩
  refine hb C s1 σ G1 H1 o1 k1 y s' h2 _ fun u G2 H2 o2 B' k2 g2 kp2 r2 t2 => ?_
  obtain ⟨w, h6, h7, h8⟩ := idx_first h4
  refine ⟨p, u, enc y, x.map enc, j, w, rfl, rfl, dq_dp (dq_mono (g2.trans k2.gh) r1) (Lay.lay x), dq_dp (dq_mono k2.gh r2) (Lay.lay y), shaped_enc (α := List α) hd x, shaped_enc (Nat.le_of_succ_le hd) y, h6, h7, h8, ?_⟩
  exact q _ G2 H2 o2 (fun _ => False) k2 (g1.trans g2) (kp.trans kp2) (show Dq X.K G2 _ (.int _) from .int _) tmp0
def isT {α : Type} (b : Bool) (_ : α) : Option Bool := some b
theorem XE.isinst [Enc α] {ma : M αs α} {T : Str} {t : String} {T' : String} {r : Bool} {p p2 : Pos} (hty : ∀ (G : Hp) (v : V) (x : α), Dq X.K G v (enc x) → TyX X.K G v (.type T')) (hk : kitB T' t = some r) (hg : Gl X "isinstance") (hm : X.mg "isinstance" = none) (hg2 : Gl X T) (hm2 : X.mg T = none) (hv2 : bootBuiltins T = some (.type t))
    (ha : XE X Γ a (RT.dat X.K α) ma) (hn : T ≠ "__name__" := by decide) (hd : (T == ("__debug__" : Str)) = false := by decide) (he : starEach [a, .Name T p2] X.env = [(false, eval a X.env), (false, eval (.Name T p2) X.env)] := by exact star2 rfl rfl) (he2 : starEach [.Name T p2] X.env = [(false, eval (.Name T p2) X.env)] := by exact star1 rfl) :
    XE X Γ (.Call (.Name "isinstance" p) [a, .Name T p2] [] pos) (RT.dat X.K Bool) (m1 (isT r) ma) :=
  .un (r := fun v H Q => rIsi X.K [v, .ty t] H Q) (pe_callB call_isi hg hm (by decide +kernel) (pa_cons pe_w (pa_cons (pe_bltn (v := .ty t) hg2 hm2 hv2 rfl hn hd) pa_nil he2) (by rw [he, he2])) (he := by rw [he, he2]) (hpl := by rw [he2]; rfl)) ha rfl fun G H v x z Q e hx hz q => by
    cases hz
    exact ⟨v, .ty t, .type T', .type t, r, rfl, .ty t, hty H v x (dq_mono e hx), kit_ty hk, here (z := r) e (.bl _) q⟩
theorem ty_int {K : Fr} (G : Hp) (v : V) (x : Int) (h : Dq K G v (enc x)) : TyX K G v (.type "int") := by
  cases dq_int h
  exact .base (.int x)
theorem ty_lst {K : Fr} [Enc α] (G : Hp) (v : V) (x : List α) (h : Dq K G v (enc x)) : TyX K G v (.type "list") := by
  obtain ⟨p, vs, rfl, hp, _⟩ := dq_list h
  exact .base (.lst hp)
end
theorem len1 {vs : List V} (h : vs.length = 1) : ∃ a, vs = [a] := match vs, h with | [a], _ => ⟨a, rfl⟩
theorem len2 {vs : List V} (h : vs.length = 2) : ∃ a b, vs = [a, b] := match vs, h with | [a, b], _ => ⟨a, b, rfl⟩
theorem len3 {vs : List V} (h : vs.length = 3) : ∃ a b c, vs = [a, b, c] := match vs, h with | [a, b, c], _ => ⟨a, b, c, rfl⟩
theorem len4 {vs : List V} (h : vs.length = 4) : ∃ a b c d, vs = [a, b, c, d] := match vs, h with | [a, b, c, d], _ => ⟨a, b, c, d, rfl⟩
theorem len5 {vs : List V} (h : vs.length = 5) : ∃ a b c d e, vs = [a, b, c, d, e] := match vs, h with | [a, b, c, d, e], _ => ⟨a, b, c, d, e, rfl⟩
def fixL {K : Fr} : {αs : List Type} → RTs K αs → Nat → List Nat → Bool
  | [], _, _, _ => true
  | α :: _, Γ, i, vs => (!(vs.contains i) || (show RT K α from Γ.1).fix) && fixL Γ.2 (i + 1) vs
theorem fixL_at {K : Fr} {vs : List Nat} : ∀ {αs : List Type} {Γ : RTs K αs} {i : Nat}, fixL Γ i vs = true → ∀ (γ : Type) (x : Var αs γ), i + x.idx ∈ vs → (x.rt Γ).fix = true
  | _, Γ, i, h, _, .vz, m => by
    have h' := (Bool.and_eq_true_iff.mp h).1
    have m' : vs.contains i = true := List.contains_iff_mem.mpr (by simpa [Var.idx] using m)
    rw [m'] at h'
    exact h'
  | _, Γ, i, h, γ, .vs x, m => by
    refine fixL_at (i := i + 1) (Bool.and_eq_true_iff.mp h).2 γ x ?_
    have e : i + 1 + x.idx = i + (x.idx + 1) := by omega
    rw [e]
    exact m
theorem fixAt {K : Fr} {αs : List Type} {Γ : RTs K αs} {vs : List Nat} (h : fixL Γ 0 vs = true) : ∀ (γ : Type) (x : Var αs γ), x.idx ∈ vs → (x.rt Γ).fix = true := fun γ x m => fixL_at h γ x (by rw [Nat.zero_add]; exact m)
def lawFs (K : Fr) (f : Env [List Int] → Option (Bool × Env [List Int])) : Fs K :=
  { ps := [List Int], Γp := ((RT.scr K, ()) : RT K (List Int) × Unit), Γo := ((RT.dead K (List Int), ()) : RT K (List Int) × Unit), ρ := Bool, R := RT.dat K Bool, f := f }
theorem lawFs_ok {K : Fr} {f : Env [List Int] → Option (Bool × Env [List Int])} {H : Hp} {a : Addr} {ns : List Int} {s' : Env [List Int]} {E : XK} (hS : SqL K H a (ns.map V.int)) (hs : f ((some ns, ()) : Option (List Int) × Unit) = some (true, s')) :
    spF (lawFs K f) [.ref a] H (fun v _ => v = .bl true) E := by
  refine ⟨H, fun _ => none, ((some ns, ()) : Option (List Int) × Unit), true, s', ⟨Ex.refl _, Ex.refl _, fun _ _ _ h => h, fun _ _ _ h => h, fun _ h => h, fun _ _ h _ => h, fun _ h => absurd rfl h, rfl, fun α x y hy => ?_⟩, hs, fun v G' H' o' B _ r _ => dq_bl r⟩
  cases x with
  | vz =>
    have hy' : some ns = some y := hy
    cases hy'
    exact ⟨_, rfl, a, rfl, hS⟩
  | vs x => exact nomatch x
theorem law_walk {l : PySem.W.OpenLaw} {q : Program} {loose : List Str} {XP : (Str → Option Value) → Heap → Prop} {YP : World → Heap → Prop} {d : DefRec} {K : PySem.Params → Fr} {f : Env [List Int] → Option (Bool × Env [List Int])} {k : Nat} (hn : l.most = some 63) (hdf : d.params.defaults = []) (hr : Room k callerA)
    (hY : ∀ (w : World) (h : Heap), YP w h → (K w.params).In h)
    (F : ∀ (w : World) (mg : Str → Option Value) (fa : Addr) (h : Heap), (K w.params).In h → h.Ns mainGlobals mg → mg d.name = some (.ref fa) →
      ∃ fd : FuncData, (∀ (s : Shared) (u : Value), BindsTo s fd ⟨[u], []⟩ [("script", u)]) ∧ ∀ base : Heap, (K w.params).In base → base.Ns mainGlobals mg → FnOk l.prog w (K w.params) mg base CX0 k fa fd ["script"] (spF (lawFs (K w.params) f)))
    (hf : ∀ ns : List Int, ns.length ≤ 63 → ∃ s', f ((some ns, ()) : Option (List Int) × Unit) = some (true, s')) :
    PySem.W.WalkO q loose XP YP l.row.toRowW d [] (fun f vs => PySem.call f vs) :=
  L2.walk_of (n := 63) (k := k) (x := "script") (CX := fun _ => CX0) (sp := fun w => spF (lawFs (K w.params) f)) hn (by decide) hdf hr hY F (fun w H a ns hl _ hS => by
    obtain ⟨s', hs⟩ := hf ns hl
    exact lawFs_ok hS hs) fun _ _ _ _ _ z => z
end Sm
namespace Sm
open PySem PySem.Spec L2
open Enc (enc)
section
variable {αs : List Type} {α β γ ρ : Type}
theorem idx_nat {xs : List α} {j : Nat} {v : α} (h : xs[j]? = some v) : idx xs (j : Int) = some v := (idx_eq _ _).trans (atI_nat h)
theorem ixN_nat {n j : Nat} (h : j < n) : ixN n (j : Int) = some j := by
  unfold ixN
  rw [if_pos (by omega), if_pos (by omega)]; simp
theorem idx0 (a : α) (xs : List α) : idx (a :: xs) 0 = some a := idx_nat (j := 0) rfl
theorem setAt_nat {xs : List α} {j : Nat} {v : α} (h : j < xs.length) : setAt xs (j : Int) v = some (xs.set j v) := by
  rw [setAt_eq, ixN_nat h]; rfl
theorem setAt0 (a b : α) (xs : List α) : setAt (a :: xs) 0 b = some (b :: xs) := setAt_nat (xs := a :: xs) (j := 0) (Nat.succ_pos _)
theorem imod_pos {i j : Int} (h : 0 < j) : imod i j = some (i % j) := (imod_eq _ _).trans (if_pos h)
theorem idiv_pos {i j : Int} (h : 0 < j) (h2 : j < 1073741824) : idiv i j = some (i / j) := (idiv_eq _ _).trans (if_pos ⟨h, h2⟩)
theorem imul_l {i j : Int} (h : -(2 ^ 64) < i ∧ i < 2 ^ 64) : imul i j = some (i * j) := (imul_eq _ _).trans (if_pos (.inl h))
theorem imul_r {i j : Int} (h : -(2 ^ 64) < j ∧ j < 2 ^ 64) : imul i j = some (i * j) := (imul_eq _ _).trans (if_pos (.inr h))
theorem lstO_ok {xs : List α} (h : xs.length ≤ 1000000) : lstO xs = some xs := (lstO_eq _).trans (if_pos h)
theorem rng_ok {n : Int} (h : -(2 ^ 62) ≤ n ∧ n < 2 ^ 62) : rng n = some ((List.range n.toNat).map fun (i : Nat) => (i : Int)) := (rng_eq _).trans (if_pos h)
theorem rng2_ok {a n : Int} (h : -(2 ^ 62) ≤ a ∧ a < 2 ^ 62 ∧ -(2 ^ 62) ≤ n ∧ n < 2 ^ 62) : rng2 a n = some ((List.range (n - a).toNat).map fun (i : Nat) => a + (i : Int)) := (rng2_eq _ _).trans (if_pos h)
end
def Run {α : Type} (o : Option α) (P : α → Prop) : Prop := ∃ a, o = some a ∧ P a
theorem Run.some {α : Type} {a : α} {P : α → Prop} (h : P a) : Run (some a) P := ⟨a, rfl, h⟩
theorem Run.bind {α β : Type} {o : Option α} {f : α → Option β} {P : α → Prop} {Q : β → Prop} (h : Run o P) (k : ∀ a, P a → Run (f a) Q) : Run (o.bind f) Q := by
  obtain ⟨a, rfl, p⟩ := h
  exact k a p
theorem Run.mono {α : Type} {o : Option α} {P Q : α → Prop} (h : Run o P) (k : ∀ a, P a → Q a) : Run o Q := by
  obtain ⟨a, e, p⟩ := h
  exact ⟨a, e, k a p⟩
theorem Run.of {α : Type} {o : Option α} {a : α} {P : α → Prop} (h : o = .some a) (p : P a) : Run o P := ⟨a, h, p⟩
theorem Run.ite {α : Type} {c : Prop} [Decidable c] {o u : Option α} {P : α → Prop} (h1 : c → Run o P) (h2 : ¬ c → Run u P) : Run (if c then o else u) P := by
  by_cases h : c
  · rw [if_pos h]; exact h1 h
  · rw [if_neg h]; exact h2 h
theorem Run.body {ps ls : List Type} {ρ : Type} {m : MS (ps ++ ls) ρ} {s : Env ps} {P : ρ × Env ps → Prop} (h : Run (m (ext ls ps s)) fun p => match p.1 with | .rt r => P (r, prj ls ps p.2) | _ => False) : Run (bodyF m s) P := by
  obtain ⟨⟨c, s'⟩, e, h⟩ := h
  unfold bodyF
  rw [e]
  cases c with
  | rt r => exact ⟨_, rfl, h⟩
  | nx => exact h.elim
  | bk => exact h.elim
  | ct => exact h.elim
end Sm
namespace Sm
open PySem PySem.Spec L2
open Enc (enc)
noncomputable def slc {α : Type} : List α → Option Int → Option Int → Option (List α) := (Seal fun (xs : List α) (lo hi : Option Int) => some ((xs.drop (HT.sIx xs.length 0 lo)).take (HT.sIx xs.length xs.length hi - HT.sIx xs.length 0 lo))).1
theorem slc_eq {α : Type} (xs : List α) (lo hi : Option Int) : slc xs lo hi = some ((xs.drop (HT.sIx xs.length 0 lo)).take (HT.sIx xs.length xs.length hi - HT.sIx xs.length 0 lo)) := by unfold slc; rw [(Seal _).2]
def revl {α : Type} (xs : List α) : Option (List α) := some xs.reverse
noncomputable def catl {α : Type} : List α → List α → Option (List α) := (Seal fun (xs ys : List α) => if xs.length + ys.length ≤ 1000000 then some (xs ++ ys) else none).1
theorem catl_eq {α : Type} (xs ys : List α) : catl xs ys = if xs.length + ys.length ≤ 1000000 then some (xs ++ ys) else none := by unfold catl; rw [(Seal _).2]
def isum (xs : List Int) : Option Int := some xs.sum
noncomputable def slcA {α : Type} (xs : List α) (i : Int) : Option (List α) := slc xs (some i) none
noncomputable def slcB {α : Type} (xs : List α) (i : Int) : Option (List α) := slc xs none (some i)
def fb' {α β γ : Type} (x : T3 α β γ) : Option β := some x.b
section
variable {X : Cx} {αs : List Type} {Γ Γ1 Γ2 Γ' Γt : RTs X.K αs} {α β γ ρ : Type} {e a b c tg iter : Expr} {es : List Expr} {pos apos cpos p1 p2 p3 pn : Pos} {n n1 n2 n3 : Str}
theorem newl [Enc α] [PureE α] {G H : Hp} {vs : List V} {xs : List α} (e : Ex G H) (h : All2 (fun v x => Dq X.K G v (enc x)) vs xs) {Q : VK} (q : ∀ w G' H' B, Al G H G' H' → (RT.own X.K α).rel G' H' w xs B → NewB G H G' H' B → Q w H') :
    ∀ l, H l = none → Q (.ref l) (upd H l (.lst vs)) := fun l hl => by
  refine q (.ref l) G _ (fun a => a = l) (Al.my e hl) ⟨l, vs, rfl, rfl, upd_same, h⟩ fun a ha => ?_
  subst ha
  refine ⟨hl, ?_, _, upd_same, rfl⟩
  cases h : G a with
  | none => rfl
  | some u => rw [e a u h] at hl; cases hl
theorem all2_cut {P : V → α → Prop} {vs : List V} {xs : List α} (lo hi : Option Int) (h : All2 P vs xs) {ys : List α} (e : slc xs lo hi = some ys) : All2 P (cutV vs lo hi) ys := by
  rw [slc_eq] at e
  cases e
  unfold cutV
  rw [h.len]
  exact (h.drop _).take _
theorem XE.slA [Enc α] [PureE α] {ma : M αs (List α)} {mb : M αs Int} (ha : XE X Γ a (RT.dat X.K (List α)) ma) (hb : XE X Γ b (RT.dat X.K Int) mb) : XE X Γ (.Subscript a (.Slice (some b) none none p2) pos) (RT.own X.K α) (m2 slcA ma mb) :=
  .bin (r := fun v u H Q => ∃ i, u = .int i ∧ rSlL X.K v (some i) none H Q) ⟨fun pins s σ H Q I h => (pe_slice sl_list pe_w (po_some pe_w) po_none).run pins s σ H Q I h⟩ ha hb rfl rfl fun G H v u x y z Q e hx hy hz q => by
    obtain ⟨p, vs, rfl, hp, k⟩ := dq_list hx
    cases dq_int hy
    exact ⟨y, rfl, p, vs, rfl, SqL.of (e _ _ hp), newl e (all2_cut _ _ k hz) q⟩
theorem XE.slB [Enc α] [PureE α] {ma : M αs (List α)} {mb : M αs Int} (ha : XE X Γ a (RT.dat X.K (List α)) ma) (hb : XE X Γ b (RT.dat X.K Int) mb) : XE X Γ (.Subscript a (.Slice none (some b) none p2) pos) (RT.own X.K α) (m2 slcB ma mb) :=
  .bin (r := fun v u H Q => ∃ i, u = .int i ∧ rSlL X.K v none (some i) H Q) ⟨fun pins s σ H Q I h => (pe_slice sl_list pe_w po_none (po_some pe_w)).run pins s σ H Q I h⟩ ha hb rfl rfl fun G H v u x y z Q e hx hy hz q => by
    obtain ⟨p, vs, rfl, hp, k⟩ := dq_list hx
    cases dq_int hy
    exact ⟨y, rfl, p, vs, rfl, SqL.of (e _ _ hp), newl e (all2_cut _ _ k hz) q⟩
theorem XE.rev [Enc α] [PureE α] {ma : M αs (List α)} {k : Nat} (ha : XE X Γ a (RT.dat X.K (List α)) ma) : XE X Γ (.Subscript a (.Slice none none (some (.UnaryOp .USub (.Constant (.int 1) k p1) p2)) p3) pos) (RT.own X.K α) (m1 revl ma) :=
  .un (r := fun x H1 Q => ∃ a xs, x = .ref a ∧ SqL X.K H1 a xs ∧ ∀ p, H1 p = none → Q (.ref p) (upd H1 p (.lst xs.reverse))) (pe_revL pe_w) ha rfl fun G H v x z Q e hx hz q => by
    cases hz
    obtain ⟨p, vs, rfl, hp, k⟩ := dq_list hx
    exact ⟨p, vs, rfl, SqL.of (e _ _ hp), newl e k.rev q⟩
theorem XE.cat [Enc α] [PureE α] {ma mb : M αs (List α)} (ha : XE X Γ a (RT.dat X.K (List α)) ma) (hb : XE X Γ b (RT.dat X.K (List α)) mb) : XE X Γ (.BinOp a .Add b pos) (RT.own X.K α) (m2 catl ma mb) :=
  .bin (r := rCat) (pe_op op_cat pe_w pe_w) ha hb rfl rfl fun G H v u x y z Q e hx hy hz q => by
    obtain ⟨p, vs, rfl, hp, k⟩ := dq_list hx
    obtain ⟨p', vs', rfl, hp', k'⟩ := dq_list hy
    rw [catl_eq] at hz
    obtain ⟨hl, rfl⟩ := ite_some hz
    exact ⟨p, p', vs, vs', rfl, rfl, e _ _ hp, e _ _ hp', by rw [k.len, k'.len]; exact Nat.le_trans hl (by decide), newl e (k.app k') q⟩
theorem all2_ints {G : Hp} : ∀ {vs : List V} {xs : List Int}, All2 (fun v x => Dq X.K G v (enc x)) vs xs → vs = xs.map V.int
  | [], [], _ => rfl
  | [], _ :: _, h => (show False from h).elim
  | _ :: _, [], h => (show False from h).elim
  | v :: vs, i :: is, h => by rw [List.map_cons, dq_int h.1, all2_ints h.2]
theorem XE.sum {ma : M αs (List Int)} {p : Pos} (hc : X.calm = true) (hg : Gl X "sum") (hm : X.mg "sum" = none) (ha : XE X Γ a (RT.dat X.K (List Int)) ma)
    (he : starEach [a] X.env = [(false, eval a X.env)] := by exact star1 rfl) : XE X Γ (.Call (.Name "sum" p) [a] [] pos) (RT.dat X.K Int) (m1 isum ma) :=
  .un (r := fun v H Q => ∃ (p : Addr) (ns : List Int), [v] = [V.ref p] ∧ SqL X.K H p (ns.map V.int) ∧ Q (.int ns.sum) H) (pe_callB (cr_sum hc) hg hm (by decide +kernel) (pa_cons pe_w pa_nil he) (he := he)) ha rfl fun G H v x z Q e hx hz q => by
    cases hz
    obtain ⟨p, vs, rfl, hp, k⟩ := dq_list hx
    have hv : vs = x.map V.int := all2_ints k
    subst hv
    exact ⟨p, x, rfl, SqL.of (e _ _ hp), here (z := x.sum) e (.int _) q⟩
/-- one comparison between values -/
def CI (X : Cx) (op : CmpOp) (f : Int → Int → Option Bool) : Prop := ∃ g : Int → Int → Bool, OpR X (compareOp op) (rI0 fun i j => .bl (g i j)) ∧ ∀ i j z, f i j = some z → z = g i j
theorem ci_lt : CI X .Lt ilt := ⟨_, op_lt, fun _ _ _ h => by rw [ilt_eq] at h; exact (Option.some.inj h).symm⟩
theorem ci_le : CI X .LtE ile := ⟨_, op_le, fun _ _ _ h => by rw [ile_eq] at h; exact (Option.some.inj h).symm⟩
theorem chain_run {f g : Int → Int → Option Bool} {op op' : CmpOp} {ma mb mc : M αs Int} (hf : CI X op f) (hg : CI X op' g) (ha : XE X Γ a (RT.dat X.K Int) ma) (hb : XE X Γ b (RT.dat X.K Int) mb) (hc : XE X Γ c (RT.dat X.K Int) mc) :
    ∃ r r', OpR X (compareOp op) r ∧ OpR X (compareOp op') r' ∧ ∀ (C : C0) (s : Env αs) (σ : L2.St) (G H : Hp) (o : Addr → Option Nat), Ok C Γ s σ G H o → ∀ (z : Bool) (s' : Env αs), chn f g ma mb mc s = some (z, s') → ∀ Q : VK,
    (∀ (G' H' : Hp) (o' : Addr → Option Nat), Ok C Γ s' σ G' H' o' → Ex G G' → Kp Γ s s' → Q (.bl z) H') → tChain r r' (wE X a) (wE X b) (wE X c) σ H Q := by
  obtain ⟨f', of, hf⟩ := hf
  obtain ⟨g', og, hg⟩ := hg
  refine ⟨_, _, of, og, fun C s σ G H o k z s' hm Q q => ?_⟩
  obtain ⟨⟨x, s1⟩, h1, hm⟩ := bindE hm
  obtain ⟨⟨y, s2⟩, h2, hm⟩ := bindE hm
  obtain ⟨d, h3, hm⟩ := bindE hm
  refine ha C s σ G H o k x s1 h1 _ fun v G1 H1 o1 B k1 g1 kp r1 t1 => ?_
  refine hb C s1 σ G1 H1 o1 k1 y s2 h2 _ fun u G2 H2 o2 B' k2 g2 kp2 r2 t2 => ?_
  cases dq_int r1
  cases dq_int r2
  refine ⟨x, y, rfl, rfl, d, by rw [hf _ _ _ h3], ?_⟩
  cases d with
  | false =>
    rw [if_neg (by simp)]
    rw [if_neg (by simp)] at hm
    cases hm
    exact q G2 H2 o2 k2 (g1.trans g2) (kp.trans kp2)
  | true =>
    rw [if_pos rfl]
    rw [if_pos rfl] at hm
    obtain ⟨⟨w, s3⟩, h4, hm⟩ := bindE hm
    obtain ⟨d2, h5, hm⟩ := bindE hm
    cases hm
    refine hc C s2 σ G2 H2 o2 k2 w _ h4 _ fun t G3 H3 o3 B'' k3 g3 kp3 r3 t3 => ?_
    cases dq_int r3
    refine ⟨y, w, rfl, rfl, ?_⟩
    have e5 := hg _ _ _ h5
    subst e5
    exact q G3 H3 o3 k3 ((g1.trans g2).trans g3) ((kp.trans kp2).trans kp3)
theorem XE.chn {f g : Int → Int → Option Bool} {op op' : CmpOp} {ma mb mc : M αs Int} (hf : CI X op f) (hg : CI X op' g) (ha : XE X Γ a (RT.dat X.K Int) ma) (hb : XE X Γ b (RT.dat X.K Int) mb) (hc : XE X Γ c (RT.dat X.K Int) mc)
    (hm : lastMarks [op, op'] [b, c] = false := by with_unfolding_all rfl) : XE X Γ (.Compare a [op, op'] [b, c] pos) (RT.dat X.K Bool) (Sm.chn f g ma mb mc) := by
  obtain ⟨r, r', h1, h2, h3⟩ := chain_run (Γ := Γ) hf hg ha hb hc
  intro C s σ G H o k z s' hm' Q q
  exact wE_of (pe_chain h1 h2 pe_w pe_w pe_w hm) (h3 C s σ G H o k z s' hm' Q fun G1 H1 o1 k1 g1 kp => q _ G1 H1 o1 (fun _ => False) k1 g1 kp (show Dq X.K G1 (.bl z) (.bool z) from .bl _) tmp0)
theorem XT.chn {f g : Int → Int → Option Bool} {op op' : CmpOp} {ma mb mc : M αs Int} (hf : CI X op f) (hg : CI X op' g) (ha : XE X Γ a (RT.dat X.K Int) ma) (hb : XE X Γ b (RT.dat X.K Int) mb) (hc : XE X Γ c (RT.dat X.K Int) mc)
    (hm : lastMarks [op, op'] [b, c] = false := by with_unfolding_all rfl) : XT X Γ (.Compare a [op, op'] [b, c] pos) (Sm.chn f g ma mb mc) := by
  obtain ⟨r, r', h1, h2, h3⟩ := chain_run (Γ := Γ) hf hg ha hb hc
  intro C s σ G H o k z s' hm' Q q
  exact wT_of (pt_chain h1 h2 pe_w pe_w pe_w hm) (h3 C s σ G H o k z s' hm' _ fun G1 H1 o1 k1 g1 kp => ⟨z, rfl, q G1 H1 o1 k1 g1 kp⟩)
theorem XE.tb [Enc α] [Enc β] [Enc γ] {ma : M αs (T3 α β γ)} {j} (ha : XE X Γ a (RT.dat X.K (T3 α β γ)) ma) : XE X Γ (.Subscript a (.Constant (.int 1) j p2) pos) (RT.dat X.K β) (m1 fb' ma) :=
  .un (r := fun v H Q => rIxT X.K v (.int 1) H Q) (pe_ix ix_tup pe_w pe_int fun _ _ => rfl) ha rfl fun G H v x z Q e hx hz q => by
    cases hz
    obtain ⟨p, v1, v2, v3, rfl, hp, h1, h2, h3⟩ := dq_t3 hx
    exact ⟨p, [v1, v2, v3], 1, v2, rfl, rfl, e.t hp, rfl, here (z := x.b) e h2 q⟩
def mPop (x : Var αs (List α)) : M αs α := fun s => (x.get s).bind fun xs => (xs[xs.length - 1]?).bind fun y => some (y, x.set (some xs.dropLast) s)
theorem all2_dropLast {P : V → α → Prop} {vs : List V} {xs : List α} (h : All2 P vs xs) : All2 P vs.dropLast xs.dropLast := by
  rw [List.dropLast_eq_take, List.dropLast_eq_take, h.len]
  exact h.take _
theorem XE.pop [Enc α] [PureE α] {x : Var αs (List α)} (hpe : PE X (.Name n pn) (tVar x.idx)) (hx : Sub (x.rt Γ) (RT.own X.K α)) (hf : (x.rt Γ).fix = false)
    (hp : PE X (.Call (.Attribute (.Name n pn) "pop" apos) [] [] cpos) (tBM0 X.K "list" rPop (tVar x.idx)) := by exact pe_bm0 PySem.F.plainAttrs_list PySem.F.slot_list_pop PySem.F.type_list_pop mt_pop (pv _)) :
    XE X Γ (.Call (.Attribute (.Name n pn) "pop" apos) [] [] cpos) (RT.dat X.K α) (mPop x) := by
  intro C s σ G H o k z s' hm Q q
  obtain ⟨xs, e0, hm⟩ := bindE hm
  obtain ⟨y, e1, hm⟩ := bindE hm
  cases hm
  obtain ⟨p, vs, h0, h2, h3, h4, h9⟩ := k.ownAt hx e0
  obtain ⟨v, h5, h6⟩ := h4.get e1
  refine wE_of hp ⟨_, h0, .inl ⟨rfl, _, SqL.of h3⟩, p, vs, v, rfl, rfl, h3, by rw [h4.len]; exact h5, ?_⟩
  refine q v G _ o (fun _ => False) (k.mut x h0 h2 rfl (hx.of h9 ⟨p, _, rfl, h2, upd_same, all2_dropLast h4⟩)) (Ex.refl _) (Var.split x (fun h => ?_) fun β z hz _ => Var.get_ne x z _ _ hz) h6 tmp0
  rw [hf] at h; cases h
end
end Sm
namespace Sm
open PySem PySem.Spec L2
open Enc (enc)
def bodyN {ps ls : List Type} (m : MS (ps ++ ls) Unit) : Env ps → Option (Unit × Env ps) := fun s => (m (ext ls ps s)).bind fun p => match p.1 with
  | .rt r => some (r, prj ls ps p.2)
  | .nx => some ((), prj ls ps p.2)
  | _ => none
section
variable {Pr : Program} {w : World} {K : Fr} {mg : Str → Option Value} {base : Heap}
theorem fs_okN {x qual : Str} {st : Stmt} {f : Addr} {fd : FuncData} {N qs : List Str} {k : Nat} (F : Fun K x qual st f fd) (S : FnScope N qs (defScope st)) {ps ls : List Type} {Γp Γo : RTs K ps} {m : MS (ps ++ ls) Unit}
    (hq : qs.length = ps.length) (hN : N.length = (ps ++ ls).length)
    (hbody : ∀ (cdv : Value) (A : Around) (outer : List PySem.Env) (s : Shared) (H : Hp) (vs : List V) (E : XK), vs.length = ps.length → Room k (A.deeper (PyProof.Rows.envOfC qual (defScope st) s.heap.objs.size f cdv)) →
      ∃ (Γ0 Γr : RTs K (ps ++ ls)), PIn ls ps Γp Γ0 vs ∧ POut ls ps Γo Γr vs ∧ XSs (cxOf CX0 Pr w K mg base N qual (defScope st) f cdv A outer s H E).nox ⟨RT.dat K Unit, Γr, Γ0, retF⟩ Γ0 Γr (defBody st) m) :
    FnOk Pr w K mg base CX0 (k + 1) f fd qs (spF ⟨ps, Γp, Γo, Unit, RT.dat K Unit, bodyN m⟩) := by
  refine F.ok S (fun vs H Q E h => by rw [hq]; exact spF_len h) fun cdv A outer s H vs Q E hr h => ⟨_, pss_w, ?_⟩
  have hl := spF_len h
  obtain ⟨G, o, e, r, e', k0, hf, q⟩ := h
  obtain ⟨Γ0, Γr, hin, hout, hb⟩ := hbody cdv A outer s H vs E hl hr
  obtain ⟨⟨c, s2⟩, e1, e2⟩ := bindE (show (m (ext ls ps e)).bind _ = some (r, e') from hf)
  have hs : ∀ i, i < vs.length → (L2.start N vs)[i]? = (vs.map some)[i]? := fun i hi => by
    unfold L2.start
    rw [List.getElem?_append_left (by simpa using hi)]
  have kS : Ok (reC G H o) Γ0 (ext ls ps e) (L2.start N vs) G H o := by
    refine ⟨k0.g, k0.gh, k0.new, k0.fr, k0.dom, k0.imm, k0.own, ?_, fun α y a hy => ?_⟩
    · unfold L2.start
      rw [List.length_append, List.length_map, List.length_replicate]
      have hl' : vs.length = ps.length := hl
      rw [List.length_append] at hN ⊢
      omega
    · rcases Var.inj_or ls ps y e with ⟨x, rfl⟩ | h
      · rw [Var.inj_get, prj_ext] at hy
        obtain ⟨v, h1, h2⟩ := k0.sl α x a hy
        have hx : x.idx < vs.length := by rw [hl]; exact x.lt
        rw [Var.inj_idx]
        refine ⟨v, by rw [hs _ hx]; exact h1, hin.get x v G H a _ ?_ h2⟩
        rw [List.getElem?_map] at h1
        cases z : vs[x.idx]? with
        | none => rw [z] at h1; cases h1
        | some u => rw [z] at h1; cases h1; rfl
      · rw [h] at hy; cases hy
  have back : ∀ {σ' : L2.St} {G' H' : Hp} {o' : Addr → Option Nat}, Ok (reC G H o) Γr s2 σ' G' H' o' → Ok (reC G H o) Γo (prj ls ps s2) (vs.map some) G' H' o' := fun k' => by
    refine ⟨k'.g, k'.gh, k'.new, k'.fr, k'.dom, k'.imm, k'.own, k0.len, fun α x a hx => ?_⟩
    have hx' : (x.inj ls).get s2 = some a := by rw [Var.inj_get]; exact hx
    obtain ⟨u, h1, h2⟩ := k'.sl α (x.inj ls) a hx'
    have hxl : x.idx < vs.length := by rw [hl]; exact x.lt
    refine ⟨vs[x.idx], by rw [List.getElem?_map, List.getElem?_eq_getElem hxl]; rfl, ?_⟩
    rw [Var.inj_idx] at h2
    exact hout.get x _ u _ _ a _ (List.getElem?_eq_getElem hxl) h2
  refine hb (reC G H o) (ext ls ps e) (L2.start N vs) G H o kS c s2 e1 _ ?_
  cases c with
  | nx =>
    cases e2
    intro σ' G' H' o' k'
    exact q .non G' H' o' (fun _ => False) (back k') (show Dq K G' .non .none from .non) tmp0
  | bk => cases e2
  | ct => cases e2
  | rt r' =>
    cases e2
    intro σ' v G' H' o' B k' r1 t1
    exact q v G' H' o' B (back k') r1 t1
end
section
variable {X : Cx} {αs : List Type} {Γ Γ1 Γ2 Γ' Γt : RTs X.K αs} {α β γ ρ τ : Type} {e a b c tg iter ob : Expr} {es : List Expr} {pos apos cpos p p1 p2 p3 pn : Pos} {n n1 n2 n3 mn : Str}
def mMake {ps : List Type} (x0 : τ) (f : Env (τ :: ps) → Option (ρ × Env (τ :: ps))) (ma : M αs (Env ps)) : M αs τ := fun s => (ma s).bind fun p => (f ((some x0, p.1) : Option τ × Env ps)).bind fun q => (show Option τ from q.2.1).bind fun t => some (t, p.2)
theorem XE.make {CX : CXT} [NoX CX] {ps : List Type} {Ro : RT X.K τ} {Γp Γo : RTs X.K ps} {f : Env (τ :: ps) → Option (Unit × Env (τ :: ps))} {κ : Ks αs ps} {ma : M αs (Env ps)} {x0 : τ} {C fn : Addr} {fd : FuncData} {qs : List Str} {k : Nat} {x : Str}
    (h0 : ∀ (G H : Hp) (p dx : Addr) (A : Addr → Prop), H p = some (.ins C dx []) → A p → Ro.rel G H (.ref p) x0 A) (M : Mk X.K C fn)
    (F : FnOk X.prog X.w X.K X.mg X.base CX k fn fd qs (spF ⟨τ :: ps, ((Ro, Γp) : RT X.K τ × RTs X.K ps), ((Ro, Γo) : RT X.K τ × RTs X.K ps), Unit, RT.dat X.K Unit, f⟩)) (hr : Room (k + 1) X.A) (hg : Gl X x) (hm : X.mg x = some (.ref C)) (hb : Binds X.K fd qs [])
    (ha : XA X Γ (e :: es) κ Γp ma) (hv : κ.ixs = [] := by rfl) (hdb : (x == ("__debug__" : Str)) = false := by decide) (he : starEach (e :: es) X.env = (false, eval e X.env) :: starEach es X.env := by exact star_cons rfl) (hpl : (backTo pos (starEach es X.env)).any (·.1) = false := by rfl) :
    XE X Γ (.Call (.Name x p) (e :: es) [] pos) Ro (mMake x0 f ma) := by
  intro C0 s σ G H o k0 z s' hm' Q q
  obtain ⟨⟨as, s1⟩, e1, e2⟩ := bindE hm'
  obtain ⟨⟨r, as'⟩, e3, e4⟩ := bindE e2
  obtain ⟨t, e5, e6⟩ := bindE e4
  cases e6
  refine wE_of (pe_make M F hr hg hm hb .nil passE pa_w hdb he hpl) ?_
  refine ha C0 s σ G H o k0 as _ e1 _ fun vs G1 H1 o1 k1 g1 kp r1 => ?_
  intro x1 dx hx hdx hne
  rw [List.append_nil]
  have hx2 : (upd (upd H1 dx (.own x1)) x1 (.ins C dx [])) x1 = some (.ins C dx []) := upd_same
  have hx3 : ∀ a u, H1 a = some u → (upd (upd H1 dx (.own x1)) x1 (.ins C dx [])) a = some u := fun a u h => by
    rw [upd_ne (ne_of_none h hx), upd_ne (ne_of_none h hdx)]; exact h
  have gx : G1 x1 = none := by
    cases z : G1 x1 with
    | none => rfl
    | some u => rw [k1.gh _ _ z] at hx; cases hx
  refine ⟨G1, fun a => if a = x1 then some 0 else none, ((some x0, as) : Option τ × Env ps), r, as', ⟨Ex.refl _, fun a u h => hx3 a u (k1.gh a u h), fun _ _ _ h => h, fun _ _ _ h => h, fun _ h => h, fun _ _ h _ => h, fun a ha => ?_, ?_, fun α y w hw => ?_⟩, e3, fun v G' H' o' B k' rr tt => ?_⟩
  · by_cases h : a = x1
    · subst h
      exact ⟨gx, ⟨_, hx2, rfl⟩, .inl ha⟩
    · simp [h] at ha
  · show (some (V.ref x1) :: vs.map some).length = _
    have := r1.len
    simp [this]
  · cases y with
    | vz =>
      have hw' : some x0 = some w := hw
      cases hw'
      exact ⟨.ref x1, rfl, h0 _ _ x1 dx _ hx2 (by show (if x1 = x1 then some 0 else none) = some 0; rw [if_pos rfl])⟩
    | vs y =>
      obtain ⟨u, h1, h2⟩ := r1.var _ y
      rcases h2 with ⟨_, h3, h4⟩ | ⟨z, _, h3, _⟩
      · refine ⟨u, ?_, (cpy_of h3 _ _ _ _ _).mpr (h4 w hw)⟩
        show (some (V.ref x1) :: vs.map some)[y.idx + 1]? = _
        rw [List.getElem?_cons_succ, List.getElem?_map, h1]; rfl
      · have := κ.sl_mem h3
        rw [hv] at this
        cases this
  · have al : Al G1 H1 G' H' := ⟨k'.g, k'.gh, fun a u h => k'.fr a u (fun (z : (if a = x1 then some 0 else none) ≠ none) => by
        rw [if_neg (ne_of_none h hx)] at z; exact z rfl) (hx3 a u h), fun a h g => k'.new a (fun (z : (if a = x1 then some 0 else none) ≠ none) => by
        by_cases w : a = x1
        · subst w; exact h hx
        · rw [if_neg w] at z; exact z rfl) (by
        cases u : H1 a with
        | none => exact absurd u h
        | some w =>
          have := hx3 a w u
          show (upd (upd H1 dx (.own x1)) x1 (.ins C dx [])) a ≠ none
          rw [this]; simp) g⟩
    obtain ⟨u, h1, h2⟩ := k'.sl τ .vz z e5
    cases h1
    refine ⟨(by cases rr; rfl), q (.ref x1) G' H' o1 _ (k1.al al) (g1.trans al.g) kp h2 (NewB.tmp (G := G1) (H := H1) k1 fun a ha => ?_)⟩
    have ha' : o' a = some 0 := ha
    obtain ⟨h3, h4, h5⟩ := k'.own a (by rw [ha']; simp)
    refine ⟨?_, h3, h4⟩
    rcases h5 with h5 | h5
    · have h5' : (if a = x1 then some 0 else none) ≠ none := h5
      by_cases w : a = x1
      · subst w; exact hx
      · rw [if_neg w] at h5'; exact absurd rfl h5'
    · cases w : H1 a with
      | none => rfl
      | some y =>
        have h6 : (upd (upd H1 dx (.own x1)) x1 (.ins C dx [])) a = none := h5
        rw [hx3 a y w] at h6; cases h6
/-- an object of the class at C without an attribute named m -/
def InsOf (C : Addr) (mn : Str) {K : Fr} (Ro : RT K τ) : Prop := ∀ (G : Hp) (v : V) (t : τ), Ro.shr G v t → ∃ a dx fs, v = .ref a ∧ G a = some (.ins C dx fs) ∧ fs.lookup mn = none
theorem XE.meth {CX : CXT} [NoX CX] {ps : List Type} {Ro Ro' : RT X.K τ} {Γp Γo : RTs X.K ps} {R : RT X.K ρ} {f : Env (τ :: ps) → Option (ρ × Env (τ :: ps))} (κ : Ks αs ps) {mo : M αs τ} {ma : M αs (Env ps)} {C fn : Addr} {fd : FuncData} {qs : List Str} {k : Nat} {pl : Sem Bool}
    (c : Cls X.K C) (hm : Meth X.K C mn fn) (F : FnOk X.prog X.w X.K X.mg X.base CX k fn fd qs (spF ⟨τ :: ps, ((Ro, Γp) : RT X.K τ × RTs X.K ps), ((Ro', Γo) : RT X.K τ × RTs X.K ps), ρ, R, f⟩)) (hr : Room k X.A) (hb : Binds X.K fd qs [])
    (hf : Ro.fix = true) (hi : InsOf C mn Ro) (ho : XE X Γ ob Ro mo) (ha : XA X Γ (e :: es) κ Γp ma) (nd : κ.ixs.Nodup := by decide) (om : OM κ Γp Γo)
    (hst : starEach (e :: es) X.env = (false, eval e X.env) :: starEach es X.env := by exact star_cons rfl) (hpl : (backTo pos (starEach es X.env)).any (·.1) = false := by rfl)
    (ht : eval (.Call (.Attribute ob mn apos) (e :: es) [] pos) X.env = (do
      let ov ← eval ob X.env
      standAt apos.atName
      let (f, first) ← holding [ov] (getMethod ov mn pl)
      callWith pos f first (backTo pos (starEach (e :: es) X.env)) (backToKw pos (keywordEach [] X.env))) := by rfl) :
    XE X Γ (.Call (.Attribute ob mn apos) (e :: es) [] pos) R (mCall (.v κ) f (aV mo ma)) := by
  intro C0 s σ G H o k0 z s' hm' Q q
  obtain ⟨⟨as, s2⟩, e1, e2⟩ := bindE hm'
  obtain ⟨⟨t, s1⟩, e3, e4⟩ := bindE e1
  obtain ⟨⟨as2, s3⟩, e5, e6⟩ := bindE e4
  cases e6
  obtain ⟨⟨r, as'⟩, e7, e8⟩ := bindE e2
  cases e8
  refine wE_of (pe_meth pe_w c hm F hr hb .nil passE pa_w hst hpl ht) ?_
  refine ho C0 s σ G H o k0 t s1 e3 _ fun v G1 H1 o1 B k1 g1 kp r1 t1 => ?_
  have hs := (cpy_of hf _ _ _ _ _).mp r1
  obtain ⟨a, dx, fs, rfl, ha', hl⟩ := hi _ _ _ hs
  refine ⟨a, dx, fs, rfl, k1.gh _ _ ha', hl, ?_⟩
  refine ha C0 s1 σ G1 H1 o1 k1 as2 _ e5 _ fun vs G2 H2 o2 k2 g2 kp2 r2 => ?_
  rw [List.append_nil]
  have r3 : AOk Γ s3 σ G2 (.v κ) ((Ro, Γp) : RT X.K τ × RTs X.K ps) ((some t, as2) : Option τ × Env ps) (V.ref a :: vs) := ⟨.ref a, vs, rfl, hf, fun y hy => by
    cases hy
    exact Ro.smono hs g2, r2⟩
  obtain ⟨oc, k3, back⟩ := k2.call (.v κ) (by simpa only [Ks.ixs] using nd) (Γp := ((Ro, Γp) : RT X.K τ × RTs X.K ps)) (Γo := ((Ro', Γo) : RT X.K τ × RTs X.K ps)) (by simp only [OM]; exact om) r3
  refine ⟨G2, oc, _, _, as', k3, e7, fun v G' H' o' B k' rr tt => ?_⟩
  obtain ⟨o4, k4, kp4, tB⟩ := back as' G' H' o' k'
  exact q v G' H' o4 B k4 ((g1.trans g2).trans k'.g) ((kp.trans kp2).trans kp4) rr (tB B tt)
/-- o.f, a property -/
theorem XE.prop {CX : CXT} [NoX CX] {Ro Ro' : RT X.K τ} {R : RT X.K ρ} {f : Env [τ] → Option (ρ × Env [τ])} {mo : M αs τ} {C pp fn : Addr} {fd : FuncData} {qs : List Str} {k : Nat}
    (c : Cls X.K C) (hp : PropOf X.K C mn pp fn) (F : FnOk X.prog X.w X.K X.mg X.base CX k fn fd qs (spF ⟨[τ], ((Ro, ()) : RT X.K τ × Unit), ((Ro', ()) : RT X.K τ × Unit), ρ, R, f⟩)) (hr : Room (k + 1) X.A) (hb : Binds X.K fd qs [])
    (hf : Ro.fix = true) (hi : InsOf C mn Ro) (ho : XE X Γ ob Ro mo) (hab : attributeBase ob mn X.env (eval ob X.env) = eval ob X.env := by rfl) :
    XE X Γ (.Attribute ob mn pos) R (mCall (.v .nil) f (aV mo aNil)) := by
  intro C0 s σ G H o k0 z s' hm' Q q
  obtain ⟨⟨as, s2⟩, e1, e2⟩ := bindE hm'
  obtain ⟨⟨t, s1⟩, e3, e4⟩ := bindE e1
  cases e4
  obtain ⟨⟨r, as'⟩, e7, e8⟩ := bindE e2
  cases e8
  refine wE_of (pe_prop (dvs := []) (E := E0) pe_w c hp F hr hb .nil passE hab) ?_
  refine ho C0 s σ G H o k0 t _ e3 _ fun v G1 H1 o1 B k1 g1 kp r1 t1 => ?_
  have hs := (cpy_of hf _ _ _ _ _).mp r1
  obtain ⟨a, dx, fs, rfl, ha', hl⟩ := hi _ _ _ hs
  refine ⟨a, dx, fs, rfl, k1.gh _ _ ha', ?_⟩
  have r3 : AOk Γ s1 σ G1 (.v .nil) ((Ro, ()) : RT X.K τ × Unit) ((some t, ()) : Option τ × Unit) [V.ref a] := ⟨.ref a, [], rfl, hf, fun y hy => by
    cases hy
    exact hs, rfl⟩
  obtain ⟨oc, k3, back⟩ := k1.call (.v .nil) (by simp [Ks.ixs]) (Γo := ((Ro', ()) : RT X.K τ × Unit)) trivial r3
  refine ⟨G1, oc, _, _, as', k3, e7, fun v G' H' o' B k' rr tt => ?_⟩
  obtain ⟨o4, k4, kp4, tB⟩ := back as' G' H' o' k'
  exact q v G' H' o4 B k4 (g1.trans k'.g) (kp.trans kp4) rr (tB B tt)
def rInO (C : Addr) (sp : Sp) (neg : Bool) : R2 := fun x y H Q => ∃ p dx fs, y = .ref p ∧ H p = some (.ins C dx fs) ∧ sp [y, x] H (fun v H' => ∃ b : Bool, v = .bl b ∧ Q (.bl (if neg then !b else b)) H') E0
section
variable {C fn : Addr} {fd : FuncData} {qs : List Str} {k : Nat} {sp : Sp}
theorem op_notInO {CX : CXT} [NoX CX] (F : FnOk X.prog X.w X.K X.mg X.base CX k fn fd qs sp) (hr : Room k X.A) (hb : Binds X.K fd qs []) (hs : PySem.W.findIn X.K (.ref C) "__contains__" = some (some (.ref fn))) (hf : PySem.W.isFn X.K (.ref fn) = true) : OpR X (compareOp .NotIn) (rInO C sp true) := by
  intro pins s σ H x y v u Q I rx ry h
  obtain ⟨p, dx, fs, rfl, hp, hq⟩ := h
  cases ry
  obtain ⟨mA, J, _⟩ := ins_get I.hok hp
  obtain ⟨od, J, _⟩ := J.look
  obtain ⟨m, hF⟩ := I.fr
  refine PySem.W.notIn_K hF I.ok.mod.kin J hs hf ?_
  refine thn (run_fn (us := [Value.ref p, v]) (vs := [V.ref p, x]) F hr hb .nil passE I (.cons rfl (.cons rx .nil)) hq) fun r s' ⟨w, H', I', rw', b, e, q⟩ => ?_
  subst e
  cases rw'
  exact wpAny_truthy_bool ⟨.bl (!b), H', I', rfl, by simpa using q⟩
def rLenO (C : Addr) (sp : Sp) : List V → Hp → VK → Prop := fun xs H Q => ∃ p dx fs, xs = [.ref p] ∧ H p = some (.ins C dx fs) ∧ sp [.ref p] H (fun v H' => ∃ n : Int, v = .int n ∧ 0 ≤ n ∧ n < 2 ^ 63 ∧ Q (.int n) H') E0
theorem call_lenO {CX : CXT} [NoX CX] (F : FnOk X.prog X.w X.K X.mg X.base CX k fn fd qs sp) (hr : Room (k + 1) X.A) (hb : Binds X.K fd qs []) (hs : PySem.W.findIn X.K (.ref C) "__len__" = some (some (.ref fn))) (hf : PySem.W.isFn X.K (.ref fn) = true) : CallR X (.builtin "len") (rLenO C sp) := by
  intro pins s σ H xs us Q I r h
  obtain ⟨p, dx, fs, rfl, hp, hq⟩ := h
  cases r with
  | cons r0 r =>
    cases r
    cases r0
    obtain ⟨mA, J, _⟩ := ins_get I.hok hp
    obtain ⟨od, J, _⟩ := J.look
    obtain ⟨m, hF⟩ := I.fr
    refine PySem.W.len_K hF I.ok.mod.kin J hs hf ?_
    have hl : ([Value.ref p] ++ []).length = qs.length := by
      rw [← F.len _ _ _ _ hq]; rfl
    refine wpAny_call (codeAny_mono (F.run X.A.in1 X.stack s H ⟨[.ref p], []⟩ [.ref p] [.ref p] _ E0 hr.in1 I.env0.in1 (hb s [.ref p] I.kIn hl) (.cons rfl .nil) hq) fun r s' hq => ?_)
    cases r with
    | error er => exact passE pins σ H s er s' I hq
    | ok fl =>
      cases fl with
      | ret u =>
        obtain ⟨v, H', I3, rv, nn, e, h0, h1, q3⟩ := I.after hq
        subst e
        cases rv
        rename_i tt ht
        subst ht
        exact ⟨⟨h0, h1⟩, ⟨.int nn, H', I3.tok _, ⟨_, rfl⟩, q3⟩⟩
      | next => exact False.elim hq
      | brk => exact False.elim hq
      | cont => exact False.elim hq
/-- x in o, x not in o -/
def mIn (neg : Bool) (f : Env [τ, α] → Option (Bool × Env [τ, α])) (ma : M αs α) (mo : M αs τ) : M αs Bool := fun s => (ma s).bind fun p => (mo p.2).bind fun q => (f ((some q.1, (some p.1, ())) : Option τ × (Option α × Unit))).bind fun r => some (if neg then !r.1 else r.1, q.2)
theorem inO_run {Ro Ro' : RT X.K τ} {Ra Ra' : RT X.K α} {f : Env [τ, α] → Option (Bool × Env [τ, α])} {ma : M αs α} {mo : M αs τ} {neg : Bool} (hfo : Ro.fix = true) (hfa : Ra.fix = true) (hi : InsOf C mn Ro) (ha : XE X Γ a Ra ma) (ho : XE X Γ b Ro mo)
    (C0 : C0) (s : Env αs) (σ : L2.St) (G H : Hp) (o : Addr → Option Nat) (k0 : Ok C0 Γ s σ G H o) (z : Bool) (s' : Env αs) (hm' : mIn neg f ma mo s = some (z, s')) (Q : VK)
    (q : ∀ (G' H' : Hp) (o' : Addr → Option Nat), Ok C0 Γ s' σ G' H' o' → Ex G G' → Kp Γ s s' → Q (.bl z) H') :
    tOp (rInO C (spF ⟨[τ, α], ((Ro, Ra, ()) : RT X.K τ × RT X.K α × Unit), ((Ro', Ra', ()) : RT X.K τ × RT X.K α × Unit), Bool, RT.dat X.K Bool, f⟩) neg) (wE X a) (wE X b) σ H Q := by
  obtain ⟨⟨x, s1⟩, e1, hm'⟩ := bindE hm'
  obtain ⟨⟨t, s2⟩, e2, hm'⟩ := bindE hm'
  obtain ⟨⟨r, as'⟩, e3, hm'⟩ := bindE hm'
  cases hm'
  refine ha C0 s σ G H o k0 x s1 e1 _ fun v G1 H1 o1 B k1 g1 kp r1 t1 => ?_
  refine ho C0 s1 σ G1 H1 o1 k1 t _ e2 _ fun u G2 H2 o2 B' k2 g2 kp2 r2 t2 => ?_
  have hs := (cpy_of hfo _ _ _ _ _).mp r2
  have hsa := Ra.smono ((cpy_of hfa _ _ _ _ _).mp r1) g2
  obtain ⟨p, dx, fs, rfl, hp, hl⟩ := hi _ _ _ hs
  have r3 : AOk Γ s2 σ G2 (.v (.v .nil)) ((Ro, Ra, ()) : RT X.K τ × RT X.K α × Unit) ((some t, some x, ()) : Option τ × Option α × Unit) [V.ref p, v] := ⟨.ref p, [v], rfl, hfo, fun y hy => by
    cases hy
    exact hs, v, [], rfl, hfa, fun y hy => by
    cases hy
    exact hsa, rfl⟩
  obtain ⟨oc, k3, back⟩ := k2.call (.v (.v .nil)) (by simp [Ks.ixs]) (Γo := ((Ro', Ra', ()) : RT X.K τ × RT X.K α × Unit)) trivial r3
  refine ⟨p, dx, fs, rfl, k2.gh _ _ hp, G2, oc, _, _, as', k3, e3, fun w G' H' o' B k' rr tt => ?_⟩
  obtain ⟨o4, k4, kp4, tB⟩ := back as' G' H' o' k'
  cases dq_bl rr
  exact ⟨r, rfl, q G' H' o4 k4 ((g1.trans g2).trans k'.g) ((kp.trans kp2).trans kp4)⟩
theorem XC.notInO {CX : CXT} [NoX CX] {Ro Ro' : RT X.K τ} {Ra Ra' : RT X.K α} {f : Env [τ, α] → Option (Bool × Env [τ, α])} {ma : M αs α} {mo : M αs τ} (F : FnOk X.prog X.w X.K X.mg X.base CX k fn fd qs (spF ⟨[τ, α], ((Ro, Ra, ()) : RT X.K τ × RT X.K α × Unit), ((Ro', Ra', ()) : RT X.K τ × RT X.K α × Unit), Bool, RT.dat X.K Bool, f⟩))
    (hr : Room k X.A) (hb : Binds X.K fd qs []) (hs : PySem.W.findIn X.K (.ref C) "__contains__" = some (some (.ref fn))) (hf : PySem.W.isFn X.K (.ref fn) = true) (hfo : Ro.fix = true) (hfa : Ra.fix = true) (hi : InsOf C "__contains__" Ro) (ha : XE X Γ a Ra ma) (ho : XE X Γ b Ro mo) (hm : behindInMarks .NotIn b = false := by rfl) : XC X Γ .NotIn a b (mIn true f ma mo) :=
  ⟨hm, _, op_notInO F hr hb hs hf, fun C0 s σ G H o k0 z s' hm' Q q => inO_run hfo hfa hi ha ho C0 s σ G H o k0 z s' hm' Q q⟩
noncomputable def len63 : Int → Option Int := (Seal fun (n : Int) => if 0 ≤ n ∧ n < 2 ^ 63 then some n else none).1
theorem len63_eq (n : Int) : len63 n = if 0 ≤ n ∧ n < 2 ^ 63 then some n else none := by unfold len63; rw [(Seal _).2]
noncomputable def mLenO (f : Env [τ] → Option (Int × Env [τ])) (mo : M αs τ) : M αs Int := fun s => (mo s).bind fun p => (f ((some p.1, ()) : Option τ × Unit)).bind fun r => (len63 r.1).bind fun n => some (n, p.2)
theorem XE.lenO {CX : CXT} [NoX CX] {Ro Ro' : RT X.K τ} {f : Env [τ] → Option (Int × Env [τ])} {mo : M αs τ} {p : Pos} (F : FnOk X.prog X.w X.K X.mg X.base CX k fn fd qs (spF ⟨[τ], ((Ro, ()) : RT X.K τ × Unit), ((Ro', ()) : RT X.K τ × Unit), Int, RT.dat X.K Int, f⟩)) (hr : Room (k + 1) X.A) (hb : Binds X.K fd qs [])
    (hs : PySem.W.findIn X.K (.ref C) "__len__" = some (some (.ref fn))) (hf : PySem.W.isFn X.K (.ref fn) = true) (hfo : Ro.fix = true) (hi : InsOf C "__len__" Ro) (hg : Gl X "len") (hm : X.mg "len" = none) (ho : XE X Γ a Ro mo)
    (he : starEach [a] X.env = [(false, eval a X.env)] := by exact star1 rfl) : XE X Γ (.Call (.Name "len" p) [a] [] pos) (RT.dat X.K Int) (mLenO f mo) := by
  intro C0 s σ G H o k0 z s' hm' Q q
  obtain ⟨⟨t, s2⟩, e2, hm'⟩ := bindE hm'
  obtain ⟨⟨r, as'⟩, e3, hm'⟩ := bindE hm'
  obtain ⟨nn, e4, hm'⟩ := bindE hm'
  cases hm'
  rw [len63_eq] at e4
  obtain ⟨hz, rfl⟩ := ite_some e4
  refine wE_of (pe_callB (call_lenO F hr hb hs hf) hg hm PySem.boot_len (pa_cons pe_w pa_nil he) (he := he)) ?_
  refine ho C0 s σ G H o k0 t _ e2 _ fun u G2 H2 o2 B' k2 g2 kp2 r2 t2 => ?_
  have hss := (cpy_of hfo _ _ _ _ _).mp r2
  obtain ⟨p, dx, fs, rfl, hp, hl⟩ := hi _ _ _ hss
  have r3 : AOk Γ s2 σ G2 (.v .nil) ((Ro, ()) : RT X.K τ × Unit) ((some t, ()) : Option τ × Unit) [V.ref p] := ⟨.ref p, [], rfl, hfo, fun y hy => by
    cases hy
    exact hss, rfl⟩
  obtain ⟨oc, k3, back⟩ := k2.call (.v .nil) (by simp [Ks.ixs]) (Γo := ((Ro', ()) : RT X.K τ × Unit)) trivial r3
  refine ⟨p, dx, fs, rfl, k2.gh _ _ hp, G2, oc, _, _, as', k3, e3, fun w G' H' o' B k' rr tt => ?_⟩
  obtain ⟨o4, k4, kp4, tB⟩ := back as' G' H' o' k'
  cases dq_int rr
  exact ⟨_, rfl, hz.1, hz.2, q _ G' H' o4 (fun _ => False) k4 (g2.trans k'.g) (kp2.trans kp4) (show Dq X.K G' (.int _) (.int _) from .int _) tmp0⟩
end
end
end Sm
namespace Sm
open PySem PySem.Spec L2
open Enc (enc)
@[ext] structure TreeD where
  ps : List Int
  ls : List Int
  hs : List Int
  deriving DecidableEq
def tfl (a b c : Addr) : List (Str × V) := putF "heights" (.ref c) (putF "lengths" (.ref b) (putF "parents" (.ref a) []))
theorem kpl : ¬ (("parents" : Str) = "lengths") := by decide +kernel
theorem kph : ¬ (("parents" : Str) = "heights") := by decide +kernel
theorem klh : ¬ (("lengths" : Str) = "heights") := by decide +kernel
theorem tfl_p (a b c : Addr) : (tfl a b c).lookup ("parents" : Str) = some (.ref a) := by
  unfold tfl; rw [lookup_putF, if_neg kph, lookup_putF, if_neg kpl, lookup_putF, if_pos rfl]
theorem tfl_l (a b c : Addr) : (tfl a b c).lookup ("lengths" : Str) = some (.ref b) := by
  unfold tfl; rw [lookup_putF, if_neg klh, lookup_putF, if_pos rfl]
theorem tfl_h (a b c : Addr) : (tfl a b c).lookup ("heights" : Str) = some (.ref c) := by
  unfold tfl; rw [lookup_putF, if_pos rfl]
theorem tfl_no (a b c : Addr) {m : Str} (h1 : ¬ m = "parents") (h2 : ¬ m = "lengths") (h3 : ¬ m = "heights") : (tfl a b c).lookup m = none := by
  unfold tfl; rw [lookup_putF, if_neg h3, lookup_putF, if_neg h2, lookup_putF, if_neg h1]; rfl
/-- what stands at v: a new instance, or a tree -/
def TmR (C : Addr) (A : Addr → Prop) (H : Hp) (v : V) : Option TreeD → Prop
  | none => ∃ p dx, v = .ref p ∧ A p ∧ H p = some (.ins C dx [])
  | some t => ∃ p dx a b c, v = .ref p ∧ A p ∧ A a ∧ A b ∧ A c ∧ H p = some (.ins C dx (tfl a b c)) ∧ H a = some (.lst (t.ps.map V.int)) ∧ H b = some (.lst (t.ls.map V.int)) ∧ H c = some (.lst (t.hs.map V.int)) ∧ a ≠ b ∧ a ≠ c ∧ b ≠ c
theorem TmR.mono {C : Addr} {A B : Addr → Prop} {H H' : Hp} {v : V} (f : ∀ a, A a → B a) (h : ∀ a o, A a → H a = some o → H' a = some o) : ∀ {t : Option TreeD}, TmR C A H v t → TmR C B H' v t
  | none, ⟨p, dx, e, k, hp⟩ => ⟨p, dx, e, f _ k, h _ _ k hp⟩
  | some _, ⟨p, dx, a, b, c, e, k, ka, kb, kc, hp, ha, hb, hc, n⟩ => ⟨p, dx, a, b, c, e, f _ k, f _ ka, f _ kb, f _ kc, h _ _ k hp, h _ _ ka ha, h _ _ kb hb, h _ _ kc hc, n⟩
/-- an object that is being made -/
def RT.tm (K : Fr) (C : Addr) : RT K (Option TreeD) where
  rel := fun _ H v t A => TmR C A H v t
  shr := fun G v t => TmR C (fun _ => True) G v t
  fix := false
  grow := fun h _ f => h.mono (fun _ z => z) fun a o k e => (f a k).trans e
  view := fun h g f => h.mono (fun _ _ => trivial) f
  smono := fun h e => h.mono (fun _ z => z) fun a o _ q => e a o q
  wid := fun h f => h.mono f fun _ _ _ e => e
  ok := .inr ⟨rfl, fun _ _ _ _ _ _ _ h _ => h⟩
/-- a tree that is shared -/
def RT.tree (K : Fr) (C : Addr) : RT K TreeD where
  rel := fun G _ v t _ => TmR C (fun _ => True) G v (some t)
  shr := fun G v t => TmR C (fun _ => True) G v (some t)
  fix := true
  grow := fun h e _ => h.mono (fun _ z => z) fun a o _ q => e a o q
  view := fun h e _ => h.mono (fun _ z => z) fun a o _ q => e a o q
  smono := fun h e => h.mono (fun _ z => z) fun a o _ q => e a o q
  wid := fun h _ => h
  ok := .inl ⟨rfl, fun _ _ _ _ _ => Iff.rfl⟩
theorem tm_mk {K : Fr} {C p dx a b c : Addr} {t : TreeD} {A : Addr → Prop} {G H : Hp} (op : A p) (oa : A a) (ob : A b) (oc : A c) (hp : H p = some (.ins C dx (tfl a b c))) (ha : H a = some (.lst (t.ps.map V.int))) (hb : H b = some (.lst (t.ls.map V.int))) (hc : H c = some (.lst (t.hs.map V.int)))
    (nab : a ≠ b) (nac : a ≠ c) (nbc : b ≠ c) : (RT.tm K C).rel G H (.ref p) (some t) A := ⟨p, dx, a, b, c, rfl, op, oa, ob, oc, hp, ha, hb, hc, nab, nac, nbc⟩
/-- what the walk asks of the class -/
structure TC (K : Fr) (C : Addr) : Prop where
  cl : Cls K C
  nP : NoAttr K C "parents"
  nL : NoAttr K C "lengths"
  nH : NoAttr K C "heights"
theorem tm_new {K : Fr} {C : Addr} (G H : Hp) (p dx : Addr) (A : Addr → Prop) (h : H p = some (.ins C dx [])) (a : A p) : (RT.tm K C).rel G H (.ref p) none A := ⟨p, dx, rfl, a, h⟩
theorem tree_ins {K : Fr} {C : Addr} {m : Str} (h1 : ¬ m = "parents") (h2 : ¬ m = "lengths") (h3 : ¬ m = "heights") : InsOf C m (RT.tree K C) := fun G v t ⟨p, dx, a, b, c, e, _, _, _, _, hp, _⟩ => ⟨p, dx, _, e, hp, tfl_no a b c h1 h2 h3⟩
theorem ints_all2 {K : Fr} {G : Hp} : ∀ (xs : List Int), All2 (fun v x => Dq K G v (enc x)) (xs.map V.int) xs
  | [] => trivial
  | i :: is => ⟨.int i, ints_all2 is⟩
theorem dq_ints {K : Fr} {G : Hp} {a : Addr} {xs : List Int} (h : G a = some (.lst (xs.map V.int))) : Dq K G (.ref a) (enc xs) := .lst h (dqAll_all2.mpr (ints_all2 xs))
def idO {α : Type} (x : Option α) : Option α := x
def fPs (t : TreeD) : Option (List Int) := some t.ps
def fLs (t : TreeD) : Option (List Int) := some t.ls
def fHs (t : TreeD) : Option (List Int) := some t.hs
section
variable {X : Cx} {αs : List Type} {Γ Γ1 Γ2 Γ' Γt : RTs X.K αs} {α β γ ρ τ : Type} {e a b c tg iter ob : Expr} {es : List Expr} {pos apos cpos p p1 p2 p3 p4 p5 p6 p7 p8 p9 q1 q2 q3 q4 q5 q6 q7 q8 q9 pn : Pos} {n n1 n2 n3 mn : Str} {C : Addr} {P : Pk X.K αs ρ}
theorem XE.tree {m : M αs (Option TreeD)} (h : XE X Γ e (RT.tm X.K C) m) : XE X Γ e (RT.tree X.K C) (m1 idO m) := by
  intro C0 s σ G H o k z s' hm Q q
  obtain ⟨x, h1, h2⟩ := m1E hm
  cases h2
  exact (XE.freeze h) C0 s σ G H o k (some z) s' h1 Q fun v G' H' o' B k' g' kp r t => q v G' H' o' B k' g' kp r t
theorem XE.fPs {m : M αs TreeD} (T : TC X.K C) (ho : XE X Γ ob (RT.tree X.K C) m) (hb : attributeBase ob "parents" X.env (eval ob X.env) = eval ob X.env := by rfl) : XE X Γ (.Attribute ob "parents" pos) (RT.dat X.K (List Int)) (m1 Sm.fPs m) :=
  .un (r := fun x H Q => ∃ a C dx fs v, x = .ref a ∧ H a = some (.ins C dx fs) ∧ Cls X.K C ∧ NoAttr X.K C "parents" ∧ fs.lookup ("parents" : Str) = some v ∧ Q v H) (pe_fld pe_w hb) ho rfl fun G H v t z Q e ⟨p, dx, a, b, c, ev, _, _, _, _, hp, ha, hb, hc, _⟩ hz q => by
    cases hz
    exact ⟨p, C, dx, _, _, ev, e _ _ hp, T.cl, T.nP, tfl_p a b c, here (z := t.ps) e (dq_ints ha) q⟩
theorem XE.fLs {m : M αs TreeD} (T : TC X.K C) (ho : XE X Γ ob (RT.tree X.K C) m) (hb : attributeBase ob "lengths" X.env (eval ob X.env) = eval ob X.env := by rfl) : XE X Γ (.Attribute ob "lengths" pos) (RT.dat X.K (List Int)) (m1 Sm.fLs m) :=
  .un (r := fun x H Q => ∃ a C dx fs v, x = .ref a ∧ H a = some (.ins C dx fs) ∧ Cls X.K C ∧ NoAttr X.K C "lengths" ∧ fs.lookup ("lengths" : Str) = some v ∧ Q v H) (pe_fld pe_w hb) ho rfl fun G H v t z Q e ⟨p, dx, a, b, c, ev, _, _, _, _, hp, ha, hb, hc, _⟩ hz q => by
    cases hz
    exact ⟨p, C, dx, _, _, ev, e _ _ hp, T.cl, T.nL, tfl_l a b c, here (z := t.ls) e (dq_ints hb) q⟩
theorem XE.fHs {m : M αs TreeD} (T : TC X.K C) (ho : XE X Γ ob (RT.tree X.K C) m) (hb : attributeBase ob "heights" X.env (eval ob X.env) = eval ob X.env := by rfl) : XE X Γ (.Attribute ob "heights" pos) (RT.dat X.K (List Int)) (m1 Sm.fHs m) :=
  .un (r := fun x H Q => ∃ a C dx fs v, x = .ref a ∧ H a = some (.ins C dx fs) ∧ Cls X.K C ∧ NoAttr X.K C "heights" ∧ fs.lookup ("heights" : Str) = some v ∧ Q v H) (pe_fld pe_w hb) ho rfl fun G H v t z Q e ⟨p, dx, a, b, c, ev, _, _, _, _, hp, ha, hb, hc, _⟩ hz q => by
    cases hz
    exact ⟨p, C, dx, _, _, ev, e _ _ hp, T.cl, T.nH, tfl_h a b c, here (z := t.hs) e (dq_ints hc) q⟩
/-- new cells are taken by a slot -/
theorem Ok.adopt {C0 : C0} {s : Env αs} {σ : L2.St} {G H : Hp} {o : Addr → Option Nat} (k : Ok C0 Γ s σ G H o) (i : Nat) {B : Addr → Prop} [DecidablePred B] (t : Tmp C0 B G H o) : Ok C0 Γ s σ G H (fun a => if B a then some i else o a) := by
  refine ⟨k.g, k.gh, k.new, k.fr, k.dom, k.imm, fun a ha => ?_, k.len, fun α x y hy => ?_⟩
  · by_cases h : B a
    · exact ⟨(t a h).2.1, (t a h).2.2.1, (t a h).2.2.2⟩
    · simp only [h, if_false] at ha; exact k.own a ha
  · obtain ⟨v, e, r⟩ := k.sl α x y hy
    refine ⟨v, e, (x.rt Γ).wid r fun a ha => ?_⟩
    have ha' : o a = some x.idx := ha
    have h : ¬ B a := fun h => by rw [(t a h).1] at ha'; cases ha'
    show (if B a then some i else o a) = _
    rw [if_neg h]; exact ha'
theorem Ok.tmAt {C0 : C0} {s : Env αs} {σ : L2.St} {G H : Hp} {o : Addr → Option Nat} (k : Ok C0 Γ s σ G H o) {x : Var αs (Option TreeD)} (hx : Sub (x.rt Γ) (RT.tm X.K C)) {t : Option TreeD} (h : x.get s = some t) :
    ∃ v, σ[x.idx]? = some (some v) ∧ TmR C (fun a => o a = some x.idx) H v t ∧ (x.rt Γ).rel G H v t (fun a => o a = some x.idx) := by
  obtain ⟨v, e, r⟩ := k.sl _ x t h
  exact ⟨v, e, hx.to r, r⟩
/-- self.parents = [i]; self.lengths = [j]; self.heights = [l] -/
def sT0 (x : Var αs (Option TreeD)) (i j l : Int) : MS αs ρ := fun s => (x.get s).bind fun t => if t = none then some (.nx, x.set (some (some ⟨[i], [j], [l]⟩)) s) else none
theorem XSs.tree0 {x : Var αs (Option TreeD)} {i j l : Int} {k1 k2 k3} {rest : List Stmt} {m : MS αs ρ} (T : TC X.K C) (hpe : ∀ q, PE X (.Name n q) (tVar x.idx)) (hx : Sub (x.rt Γ) (RT.tm X.K C)) (hr : XSs X P Γ Γ2 rest m)
    (h1 : swapsWith (.List [.Constant (.int i) k1 p1] p2) (some (.Attribute (.Name n q1) "parents" q4)) p3.line X.env = pure false := by rfl)
    (h2 : swapsWith (.List [.Constant (.int j) k2 p4] p5) (some (.Attribute (.Name n q2) "lengths" q5)) p6.line X.env = pure false := by rfl)
    (h3 : swapsWith (.List [.Constant (.int l) k3 p7] p8) (some (.Attribute (.Name n q3) "heights" q6)) p9.line X.env = pure false := by rfl) :
    XSs X P Γ Γ2 (.Assign [.Attribute (.Name n q1) "parents" q4] (.List [.Constant (.int i) k1 p1] p2) p3 :: .Assign [.Attribute (.Name n q2) "lengths" q5] (.List [.Constant (.int j) k2 p4] p5) p6 ::
      .Assign [.Attribute (.Name n q3) "heights" q6] (.List [.Constant (.int l) k3 p7] p8) p9 :: rest) (sSeq (sT0 x i j l) m) := by
  classical
  intro C0 s σ G H o k c s' hm D fin
  obtain ⟨⟨c1, s1⟩, e1, e2⟩ := bindE hm
  obtain ⟨t, e3, e4⟩ := bindE e1
  have e5 := ite_some e4
  obtain ⟨rfl, e6⟩ := e5
  cases e6
  obtain ⟨v, h0, ⟨p0, dx, rfl, op, hp⟩, r0⟩ := k.tmAt hx e3
  refine wSs_of (pss_cons (ps_fld (hpe _) (pe_lst (pa_cons pe_int pa_nil)) h1) (pss_cons (ps_fld (hpe _) (pe_lst (pa_cons pe_int pa_nil)) h2) (pss_cons (ps_fld (hpe _) (pe_lst (pa_cons pe_int pa_nil)) h3) pss_w))) ?_
  refine ⟨by show 1 ≤ sizeLine; decide, fun a ha => ?_⟩
  have npa : p0 ≠ a := ne_of_none hp ha
  refine ⟨_, h0, p0, C, dx, [], rfl, (by rw [upd_ne npa]; exact hp), T.cl, T.nP, (by show 0 < 1000; decide), ?_⟩
  refine ⟨by show 1 ≤ sizeLine; decide, fun b hb => ?_⟩
  have npb : p0 ≠ b := fun z => by rw [← z, upd_same] at hb; cases hb
  have nab : a ≠ b := fun z => by rw [← z, upd_ne npa.symm, upd_same] at hb; cases hb
  have hb0 : H b = none := by rw [upd_ne npb.symm, upd_ne nab.symm] at hb; exact hb
  refine ⟨_, h0, p0, C, dx, _, rfl, (by rw [upd_ne npb]; exact upd_same), T.cl, T.nL, (by show 1 < 1000; decide), ?_⟩
  refine ⟨by show 1 ≤ sizeLine; decide, fun d hd => ?_⟩
  have npd : p0 ≠ d := fun z => by rw [← z, upd_same] at hd; cases hd
  have nbd : b ≠ d := fun z => by rw [← z, upd_ne npb.symm, upd_same] at hd; cases hd
  have nad : a ≠ d := fun z => by rw [← z, upd_ne npa.symm, upd_ne nab, upd_ne npa.symm, upd_same] at hd; cases hd
  have hd0 : H d = none := by rw [upd_ne npd.symm, upd_ne nbd.symm, upd_ne npd.symm, upd_ne nad.symm] at hd; exact hd
  refine ⟨_, h0, p0, C, dx, _, rfl, (by rw [upd_ne npd]; exact upd_same), T.cl, T.nH, (by show 2 < 1000; decide), ?_⟩
  -- the new state
  have eh : upd (upd (upd (upd (upd (upd H a (.lst [.int i])) p0 (.ins C dx (putF "parents" (.ref a) []))) b (.lst [.int j])) p0 (.ins C dx (putF "lengths" (.ref b) (putF "parents" (.ref a) [])))) d (.lst [.int l])) p0 (.ins C dx (tfl a b d)) =
      upd (upd (upd (upd H a (.lst [.int i])) b (.lst [.int j])) d (.lst [.int l])) p0 (.ins C dx (tfl a b d)) := by
    funext y
    by_cases hy : y = p0
    · subst hy; rw [upd_same, upd_same]
    · rw [upd_ne hy, upd_ne hy]
      by_cases hy2 : y = d
      · subst hy2; rw [upd_same, upd_same]
      · rw [upd_ne hy2, upd_ne hy2, upd_ne hy]
        by_cases hy3 : y = b
        · subst hy3; rw [upd_same, upd_same]
        · rw [upd_ne hy3, upd_ne hy3, upd_ne hy]
  show (wSs X rest) D σ (upd (upd (upd (upd (upd (upd H a (.lst [.int i])) p0 (.ins C dx (putF "parents" (.ref a) []))) b (.lst [.int j])) p0 (.ins C dx (putF "lengths" (.ref b) (putF "parents" (.ref a) [])))) d (.lst [.int l])) p0 (.ins C dx (tfl a b d)))
  rw [eh]
  have ka := k.al (Al.my k.gh (o := .lst [.int i]) ha)
  have kb := ka.al (Al.my ka.gh (p := b) (o := .lst [.int j]) (by rw [upd_ne nab.symm]; exact hb0))
  have kd := kb.al (Al.my kb.gh (p := d) (o := .lst [.int l]) (by rw [upd_ne nbd.symm, upd_ne nad.symm]; exact hd0))
  have gno : ∀ y, H y = none → G y = none := fun y hy => by
    cases z : G y with
    | none => rfl
    | some u => rw [k.gh _ _ z] at hy; cases hy
  have ono : ∀ y, H y = none → o y = none := fun y hy => by
    cases z : o y with
    | none => rfl
    | some u =>
      obtain ⟨_, ⟨ob, h, _⟩, _⟩ := k.own y (by rw [z]; simp)
      rw [h] at hy; cases hy
  have t3 : Tmp C0 (fun y => y = a ∨ y = b ∨ y = d) G (upd (upd (upd H a (.lst [.int i])) b (.lst [.int j])) d (.lst [.int l])) o := fun y hy => by
    have hy0 : H y = none := by rcases hy with rfl | rfl | rfl <;> assumption
    refine ⟨ono y hy0, gno y hy0, ?_, k.free (.inr hy0)⟩
    rcases hy with rfl | rfl | rfl
    · exact ⟨_, by rw [upd_ne nad, upd_ne nab, upd_same], rfl⟩
    · exact ⟨_, by rw [upd_ne nbd, upd_same], rfl⟩
    · exact ⟨_, upd_same, rfl⟩
  have kk := kd.adopt x.idx t3
  have hp3 : (fun a_1 => if a_1 = a ∨ a_1 = b ∨ a_1 = d then some x.idx else o a_1) p0 = some x.idx := by
    show (if p0 = a ∨ p0 = b ∨ p0 = d then some x.idx else o p0) = some x.idx
    rw [if_neg (by rintro (h | h | h); exact npa h; exact npb h; exact npd h)]; exact op
  have kf := kk.mut x (p := p0) (u := .ins C dx (tfl a b d)) (v := .ref p0) (y := some ⟨[i], [j], [l]⟩) h0 hp3 rfl (hx.of r0 (tm_mk hp3 (if_pos (.inl rfl)) (if_pos (.inr (.inl rfl))) (if_pos (.inr (.inr rfl))) upd_same (by rw [upd_ne npa.symm, upd_ne nad, upd_ne nab, upd_same]; rfl) (by rw [upd_ne npb.symm, upd_ne nbd, upd_same]; rfl) (by rw [upd_ne npd.symm, upd_same]; rfl) nab nad nbd))
  exact hr C0 _ σ G _ _ kf c s' e2 D fin
/-- self.parents.append(y); self.lengths.append(z); self.heights.append(self.heights[y] + z) -/
noncomputable def sTA (x : Var αs (Option TreeD)) (y z : Var αs Int) : MS αs ρ := fun s => (x.get s).bind fun t => t.bind fun t => (y.get s).bind fun i => (z.get s).bind fun j => (idx t.hs i).bind fun h =>
  if t.ps.length < 1000000 ∧ t.ls.length < 1000000 ∧ t.hs.length < 1000000 then some (.nx, x.set (some (some ⟨t.ps ++ [i], t.ls ++ [j], t.hs ++ [h + j]⟩)) s) else none
theorem atI_mapInt (xs : List Int) (i : Int) : atI (xs.map V.int) i = (atI xs i).map V.int := atI_map _ _ _
theorem XSs.treeAdd {x : Var αs (Option TreeD)} {y z : Var αs Int} (T : TC X.K C) (hpx : ∀ q, PE X (.Name n q) (tVar x.idx)) (hpy : ∀ q, PE X (.Name n1 q) (tVar y.idx)) (hpz : ∀ q, PE X (.Name n2 q) (tVar z.idx)) (hx : Sub (x.rt Γ) (RT.tm X.K C)) (hy : y.rt Γ = RT.dat X.K Int) (hz : z.rt Γ = RT.dat X.K Int)
    {a1 a2 a3 c1 c2 c3 b1 b2 b3 d1 d2 d3 d4 d5 d6 : Pos}
    (m1 : PE X (.Call (.Attribute (.Attribute (.Name n q1) "parents" a1) "append" b1) [.Name n1 q2] [] c1) (tBM X.K "list" rAppend (tFld X.K (tVar x.idx) "parents") (tCons (tVar y.idx) tNil)) := by exact pe_bm PySem.F.plainAttrs_list PySem.F.slot_list_append PySem.F.type_list_append mt_append (pe_fld (pv _) rfl) (pa_cons (pv _) pa_nil (star_cons rfl)))
    (m2 : PE X (.Call (.Attribute (.Attribute (.Name n q3) "lengths" a2) "append" b2) [.Name n2 q4] [] c2) (tBM X.K "list" rAppend (tFld X.K (tVar x.idx) "lengths") (tCons (tVar z.idx) tNil)) := by exact pe_bm PySem.F.plainAttrs_list PySem.F.slot_list_append PySem.F.type_list_append mt_append (pe_fld (pv _) rfl) (pa_cons (pv _) pa_nil (star_cons rfl)))
    (m3 : PE X (.Call (.Attribute (.Attribute (.Name n q5) "heights" a3) "append" b3) [.BinOp (.Subscript (.Attribute (.Name n q6) "heights" d1) (.Name n1 q7) d2) .Add (.Name n2 q8) d3] [] c3)
      (tBM X.K "list" rAppend (tFld X.K (tVar x.idx) "heights") (tCons (tOp (rI0 fun i j => .int (i + j)) (tOp (rIxL X.K) (tFld X.K (tVar x.idx) "heights") (tVar y.idx)) (tVar z.idx)) tNil)) := by
        exact pe_bm PySem.F.plainAttrs_list PySem.F.slot_list_append PySem.F.type_list_append mt_append (pe_fld (pv _) rfl) (pa_cons (pe_op op_add (pe_ix ix_list (pe_fld (pv _) rfl) (pv _) (fun _ _ => rfl)) (pv _)) pa_nil))
    (s1 : swapsWith (.Call (.Attribute (.Attribute (.Name n q1) "parents" a1) "append" b1) [.Name n1 q2] [] c1) none d4.line X.env = pure false := by rfl)
    (s2 : swapsWith (.Call (.Attribute (.Attribute (.Name n q3) "lengths" a2) "append" b2) [.Name n2 q4] [] c2) none d5.line X.env = pure false := by rfl)
    (s3 : swapsWith (.Call (.Attribute (.Attribute (.Name n q5) "heights" a3) "append" b3) [.BinOp (.Subscript (.Attribute (.Name n q6) "heights" d1) (.Name n1 q7) d2) .Add (.Name n2 q8) d3] [] c3) none d6.line X.env = pure false := by rfl) :
    XSs X P Γ Γ [.Expr (.Call (.Attribute (.Attribute (.Name n q1) "parents" a1) "append" b1) [.Name n1 q2] [] c1) d4, .Expr (.Call (.Attribute (.Attribute (.Name n q3) "lengths" a2) "append" b2) [.Name n2 q4] [] c2) d5,
      .Expr (.Call (.Attribute (.Attribute (.Name n q5) "heights" a3) "append" b3) [.BinOp (.Subscript (.Attribute (.Name n q6) "heights" d1) (.Name n1 q7) d2) .Add (.Name n2 q8) d3] [] c3) d6] (sTA x y z) := by
  intro C0 s σ G H o k cc s' hm D fin
  obtain ⟨t0, e1, hm1⟩ := bindE hm
  obtain ⟨t, e2, hm2⟩ := bindE hm1
  cases e2
  obtain ⟨i, e3, hm3⟩ := bindE hm2
  obtain ⟨j, e4, hm4⟩ := bindE hm3
  obtain ⟨h, e5, hm5⟩ := bindE hm4
  obtain ⟨hl, e6⟩ := ite_some hm5
  cases e6
  obtain ⟨v, h0, ⟨p0, dx, a, b, c, rfl, op, oa, ob, oc, hp, ha, hb, hc, nab, nac, nbc⟩, r0⟩ := k.tmAt hx e1
  obtain ⟨vi, hi, ri⟩ := k.sl _ y i e3
  rw [hy] at ri
  cases dq_int ri
  obtain ⟨vj, hj, rj⟩ := k.sl _ z j e4
  rw [hz] at rj
  cases dq_int rj
  have npa : p0 ≠ a := fun z => by rw [z, ha] at hp; cases hp
  have npb : p0 ≠ b := fun z => by rw [z, hb] at hp; cases hp
  have npc : p0 ≠ c := fun z => by rw [z, hc] at hp; cases hp
  have lt : ∀ (xs : List Int), xs.length < 1000000 → (xs.map V.int).length < sizeLine := fun xs h => by rw [List.length_map]; exact Nat.lt_trans h (by decide)
  refine wSs_of (pss_cons (ps_expr m1 s1) (pss_cons (ps_expr m2 s2) (pss_one (ps_expr m3 s3)))) ?_
  refine ⟨_, h0, p0, C, dx, _, _, rfl, hp, T.cl, T.nP, tfl_p a b c, .inl ⟨rfl, _, SqL.of ha⟩, _, hi, a, _, _, rfl, rfl, ha, lt _ hl.1, ?_⟩
  refine ⟨_, h0, p0, C, dx, _, _, rfl, (by rw [upd_ne npa]; exact hp), T.cl, T.nL, tfl_l a b c, .inl ⟨rfl, _, SqL.of (by rw [upd_ne nab.symm]; exact hb)⟩, _, hj, b, _, _, rfl, rfl, (by rw [upd_ne nab.symm]; exact hb), lt _ hl.2.1, ?_⟩
  have hc2 : (upd (upd H a (.lst (t.ps.map V.int ++ [V.int i]))) b (.lst (t.ls.map V.int ++ [V.int j]))) c = some (.lst (t.hs.map V.int)) := by rw [upd_ne nbc.symm, upd_ne nac.symm]; exact hc
  have hp2 : (upd (upd H a (.lst (t.ps.map V.int ++ [V.int i]))) b (.lst (t.ls.map V.int ++ [V.int j]))) p0 = some (.ins C dx (tfl a b c)) := by rw [upd_ne npb, upd_ne npa]; exact hp
  refine ⟨_, h0, p0, C, dx, _, _, rfl, hp2, T.cl, T.nH, tfl_h a b c, .inl ⟨rfl, _, SqL.of hc2⟩, _, h0, p0, C, dx, _, _, rfl, hp2, T.cl, T.nH, tfl_h a b c, _, hi, c, _, i, .int h, rfl, rfl, SqL.of hc2, ?_, _, hj, h, j, rfl, rfl, c, _, _, rfl, rfl, hc2, lt _ hl.2.2, ?_⟩
  · rw [atI_mapInt, show atI t.hs i = some h from (idx_eq _ _).symm.trans e5]; rfl
  · have k1 := k.mut x (p := a) (u := .lst (t.ps.map V.int ++ [V.int i])) (v := .ref p0) (y := some ⟨t.ps ++ [i], t.ls, t.hs⟩) h0 oa rfl (hx.of r0 (tm_mk op oa ob oc (by rw [upd_ne npa]; exact hp) (by rw [upd_same]; simp) (by rw [upd_ne nab.symm]; exact hb) (by rw [upd_ne nac.symm]; exact hc) nab nac nbc))
    obtain ⟨v1, h1, _, r1⟩ := k1.tmAt hx (x.get_set _ _)
    rw [h0] at h1; cases h1
    have k2 := k1.mut x (p := b) (u := .lst (t.ls.map V.int ++ [V.int j])) (v := .ref p0) (y := some ⟨t.ps ++ [i], t.ls ++ [j], t.hs⟩) h0 ob rfl (hx.of r1 (tm_mk op oa ob oc hp2 (by rw [upd_ne nab, upd_same]; simp) (by rw [upd_same]; simp) hc2 nab nac nbc))
    have k3 := k2.mut x (p := c) (u := .lst (t.hs.map V.int ++ [V.int (h + j)])) (v := .ref p0) (y := some ⟨t.ps ++ [i], t.ls ++ [j], t.hs ++ [h + j]⟩) h0 oc rfl (hx.of r1 (tm_mk op oa ob oc (by rw [upd_ne npc]; exact hp2) (by rw [upd_ne nac, upd_ne nab, upd_same]; simp) (by rw [upd_ne nbc, upd_same]; simp) (by rw [upd_same]; simp) nab nac nbc))
    have ss : ∀ (u v w : Option (Option TreeD)), x.set w (x.set v (x.set u s)) = x.set w s := by
      intro u v w
      rw [Var.set_set, Var.set_set]
    rw [ss] at k3
    exact fin σ G _ o k3
/-- len(self.parents) while it is made -/
def mLenP (x : Var αs (Option TreeD)) : M αs Int := fun s => (x.get s).bind fun t => t.bind fun t => some ((t.ps.length : Int), s)
theorem XE.lenP {x : Var αs (Option TreeD)} (T : TC X.K C) (hpe : PE X (.Name n q1) (tVar x.idx)) (hx : Sub (x.rt Γ) (RT.tm X.K C)) (hg : Gl X "len") (hm : X.mg "len" = none)
    (hb : attributeBase (.Name n q1) "parents" X.env (eval (.Name n q1) X.env) = eval (.Name n q1) X.env := by rfl) (he : starEach [.Attribute (.Name n q1) "parents" q2] X.env = [(false, eval (.Attribute (.Name n q1) "parents" q2) X.env)] := by exact star1 rfl) :
    XE X Γ (.Call (.Name "len" p) [.Attribute (.Name n q1) "parents" q2] [] pos) (RT.dat X.K Int) (mLenP x) := by
  intro C0 s σ G H o k z s' hm' Q q
  obtain ⟨t0, e1, hm1⟩ := bindE hm'
  obtain ⟨t, e2, hm2⟩ := bindE hm1
  cases e2
  cases hm2
  obtain ⟨v, h0, ⟨p0, dx, a, b, c, rfl, op, oa, ob, oc, hp, ha, hb', hc, nn⟩, r0⟩ := k.tmAt hx e1
  refine wE_of (pe_callB call_len_seq hg hm PySem.boot_len (pa_cons (pe_fld hpe hb) pa_nil he) (he := he)) ?_
  refine ⟨_, h0, p0, C, dx, _, _, rfl, hp, T.cl, T.nP, tfl_p a b c, a, _, rfl, .inl (SqL.of ha), ?_⟩
  rw [List.length_map]
  exact q _ G H o (fun _ => False) k (Ex.refl _) .refl (show Dq X.K G (.int _) (.int _) from .int _) tmp0
end
end Sm
namespace Sm
open PySem PySem.Spec L2
open Enc (enc)
theorem ty_sqT {K : Fr} {G : Hp} {p : Addr} {xs : List V} (h : SqT K G p xs) : TyX K G (.ref p) (.type "tuple") := by
  rcases h with (h | ⟨o, h⟩) | h
  · exact .base (.tup h)
  · exact .fTuple h
  · obtain ⟨o, its, n, h1, h2, _⟩ := h
    exact .kTuple h1 h2
theorem ty_tup2 {K : Fr} {α β : Type} [Enc α] [Enc β] (G : Hp) (v : V) (x : α × β) (h : Dq K G v (enc x)) : TyX K G v (.type "tuple") := by
  obtain ⟨p, a, b, rfl, hp, _⟩ := dq_pair h
  exact ty_sqT hp
def lenP {α β : Type} (_ : α × β) : Option Int := some 2
section
variable {X : Cx} {αs : List Type} {Γ : RTs X.K αs} {α β γ : Type} {a : Expr} {pos p : Pos}
theorem XE.len2 [Enc α] [Enc β] {ma : M αs (α × β)} (hg : Gl X "len") (hm : X.mg "len" = none) (ha : XE X Γ a (RT.dat X.K (α × β)) ma)
    (he : starEach [a] X.env = [(false, eval a X.env)] := by exact star1 rfl) : XE X Γ (.Call (.Name "len" p) [a] [] pos) (RT.dat X.K Int) (m1 Sm.lenP ma) :=
  .un (r := fun v H Q => ∃ p ys, [v] = [V.ref p] ∧ (SqL X.K H p ys ∨ SqT X.K H p ys) ∧ Q (.int ys.length) H) (pe_callB call_len_seq hg hm PySem.boot_len (pa_cons pe_w pa_nil he) (he := he)) ha rfl fun G H v x z Q e hx hz q => by
    cases hz
    obtain ⟨p, v1, v2, rfl, hp, h1, h2⟩ := dq_pair hx
    exact ⟨p, _, rfl, .inr (e.t hp), here (z := (2 : Int)) e (.int _) q⟩
end
section
variable {X : Cx} {αs : List Type} {Γ : RTs X.K αs} {α β γ ρ : Type} {a : Expr} {pos p : Pos}
def mCallT (f : Env [α] → Option (ρ × Env [α])) (ma : M αs α) : M αs ρ := fun s => (ma s).bind fun p => (f ((some p.1, ()) : Option α × Unit)).bind fun q => some (q.1, p.2)
theorem XE.callT {CX : CXT} [NoX CX] {Ra Ro : RT X.K α} {R : RT X.K ρ} {f : Env [α] → Option (ρ × Env [α])} {ma : M αs α} {fn : Addr} {fd : FuncData} {qs : List Str} {n : Nat} {x : Str}
    (F : FnOk X.prog X.w X.K X.mg X.base CX n fn fd qs (spF ⟨[α], ((Ra, ()) : RT X.K α × Unit), ((Ro, ()) : RT X.K α × Unit), ρ, R, f⟩)) (hr : Room n X.A) (hg : Gl X x) (hm : X.mg x = some (.ref fn)) (hk : PySem.W.keepIn X.K (.ref fn) = true) (hb : Binds X.K fd qs []) (ha : XE X Γ a Ra ma)
    (hdb : (x == ("__debug__" : Str)) = false := by decide) (he : starEach [a] X.env = (false, eval a X.env) :: starEach [] X.env := by exact star_cons rfl) (hpl : (backTo pos (starEach [] X.env)).any (·.1) = false := by rfl) :
    XE X Γ (.Call (.Name x p) [a] [] pos) R (mCallT f ma) := by
  classical
  intro C s σ G H o k z s' hm' Q q
  obtain ⟨⟨y, s1⟩, e1, e2⟩ := bindE hm'
  obtain ⟨⟨r, as'⟩, e3, e4⟩ := bindE e2
  cases e4
  refine wE_of (pe_call F hr hg hm hk hb .nil passE (pa_cons pe_w pa_nil he) hdb he hpl) ?_
  refine ha C s σ G H o k y _ e1 _ fun v G1 H1 o1 B k1 g1 kp r1 t1 => ?_
  have nb : ∀ b, o1 b ≠ none → ¬ B b := fun b h w => h (t1 b w).1
  have oc : ∀ b, ¬ B b → ¬ ((if B b then some 0 else none : Option Nat) ≠ none) := fun b h w => by rw [if_neg h] at w; exact w rfl
  have nm : ∀ b u, ¬ C.M0 b → C.H0 b = some u → ¬ B b := fun b u n h w => by
    rcases (t1 b w).2.2.2 with q | q
    · exact n q
    · rw [q] at h; cases h
  refine ⟨G1, fun b => if B b then some 0 else none, ((some y, ()) : Option α × Unit), r, as', ⟨Ex.refl _, k1.gh, fun _ _ _ h => h, fun _ _ _ h => h, fun _ h => h, fun _ _ h _ => h, fun b hb => ?_, rfl, fun β x w hw => ?_⟩, e3, fun v' G' H' o' B' k' rr tt => ?_⟩
  · have hB : B b := Classical.byContradiction fun h => oc b h hb
    exact ⟨(t1 b hB).2.1, (t1 b hB).2.2.1, .inl hb⟩
  · cases x with
    | vz =>
      have hw' : some y = some w := hw
      cases hw'
      exact ⟨v, rfl, Ra.wid r1 fun b hb => by show (if B b then some 0 else none) = some 0; rw [if_pos hb]⟩
    | vs x => exact nomatch x
  · have hfr : ∀ b u, ¬ B b → H1 b = some u → H' b = some u := fun b u h e => k'.fr b u (oc b h) e
    have k2 : Ok C Γ s1 σ G' H' o1 := by
      refine ⟨k1.g.trans k'.g, k'.gh, fun b n h0 g0 => ?_, fun b u n h0 => hfr b u (nm b u n h0) (k1.fr b u n h0), fun b h0 => k'.dom b (k1.dom b h0), fun b u h0 i => k'.imm b u (k1.imm b u h0 i) i, fun b hb => ?_, k1.len, fun β x w hw => ?_⟩
      · cases w : C.H0 b with
        | none => exact absurd w h0
        | some u => exact k'.new b (oc b (nm b u n w)) (k1.dom b h0) (k1.new b n h0 g0)
      · obtain ⟨h1, ⟨ob, h2, h3⟩, h4⟩ := k1.own b hb
        exact ⟨k'.new b (oc b (nb b hb)) (by show H1 b ≠ none; rw [h2]; simp) h1, ⟨ob, hfr b ob (nb b hb) h2, h3⟩, h4⟩
      · obtain ⟨u, e, r⟩ := k1.sl β x w hw
        refine ⟨u, e, (x.rt Γ).grow r k'.g fun b hb => ?_⟩
        have hb' : o1 b = some x.idx := hb
        obtain ⟨_, ⟨ob, h2, _⟩, _⟩ := k1.own b (by rw [hb']; simp)
        rw [h2, hfr b ob (nb b (by rw [hb']; simp)) h2]
    refine q v' G' H' o1 B' k2 (g1.trans k'.g) kp rr fun b hb => ?_
    obtain ⟨h1, h2, h3, h4⟩ := tt b hb
    have h5 : B b ∨ H1 b = none := by
      rcases h4 with h4 | h4
      · exact .inl (Classical.byContradiction fun h => oc b h h4)
      · exact .inr h4
    refine ⟨?_, h2, h3, ?_⟩
    · rcases h5 with h5 | h5
      · exact (t1 b h5).1
      · cases w : o1 b with
        | none => rfl
        | some i =>
          obtain ⟨_, ⟨ob, h6, _⟩, _⟩ := k1.own b (by rw [w]; simp)
          rw [h6] at h5; cases h5
    · rcases h5 with h5 | h5
      · exact (t1 b h5).2.2.2
      · exact k1.free (.inr h5)
end
end Sm
namespace Sm
open PySem PySem.Spec L2
open Enc (enc)
theorem run_eq {α : Type} {o : Option α} {x : α} (h : Run o fun a => a = x) : o = some x := by
  obtain ⟨a, e, rfl⟩ := h
  exact e
theorem ixN_neg {n k : Nat} (h1 : 1 ≤ k) (h2 : k ≤ n) : ixN n (-(k : Int)) = some (n - k) := by
  unfold ixN
  rw [if_neg (by omega), if_pos (by omega)]
  congr 1; omega
theorem idx_neg {α : Type} {xs : List α} {k : Nat} (h1 : 1 ≤ k) (h2 : k ≤ xs.length) : idx xs (-(k : Int)) = xs[xs.length - k]? := by
  rw [idx_eq]; unfold atI
  rw [ixN_neg h1 h2]; rfl
theorem idx_m2 {α : Type} {xs : List α} (h : 2 ≤ xs.length) : idx xs (-2) = xs[xs.length - 2]? := idx_neg (k := 2) (by omega) h
theorem slcB_neg {α : Type} (xs : List α) (k : Nat) (h1 : 1 ≤ k) (h2 : k ≤ xs.length) : slcB xs (-(k : Int)) = some (xs.take (xs.length - k)) := by
  unfold slcB
  rw [slc_eq]
  have e1 : HT.sIx xs.length 0 none = 0 := by simp [HT.sIx]
  have e2 : HT.sIx xs.length xs.length (some (-(k : Int))) = xs.length - k := by
    show (if (-(k : Int)) < 0 then (-(k : Int) + (xs.length : Int)).toNat else min (-(k : Int)).toNat xs.length) = _
    rw [if_pos (by omega)]; omega
  rw [e1, e2]; simp
theorem slcB_m1 {α : Type} (xs : List α) (h : 1 ≤ xs.length) : slcB xs (-1) = some (xs.take (xs.length - 1)) := slcB_neg xs 1 (by omega) h
theorem slcA_nat {α : Type} (xs : List α) (k : Nat) : slcA xs (k : Int) = some (xs.drop k) := by
  unfold slcA
  rw [slc_eq]
  have e1 : HT.sIx xs.length xs.length none = xs.length := by simp [HT.sIx]
  have e2 : HT.sIx xs.length 0 (some (k : Int)) = min k xs.length := HT.sIx_nat _ _ _
  rw [e1, e2]
  by_cases h : k ≤ xs.length
  · rw [Nat.min_eq_left h, List.take_of_length_le (by simp)]
  · rw [Nat.min_eq_right (by omega), List.drop_eq_nil_of_le (as := xs) (i := k) (by omega)]; simp
theorem catl_ok {α : Type} {xs ys : List α} (h : xs.length + ys.length ≤ 1000000) : catl xs ys = some (xs ++ ys) := (catl_eq _ _).trans (if_pos h)
end Sm
namespace Sm
open PySem PySem.Spec L2
open Enc (enc)
section
variable {X : Cx} {αs : List Type} {Γ Γb Γt : RTs X.K αs} {α β γ ρ : Type} {tg iter elt : Expr} {pos : Pos} {ifs : List Expr} {scope : Scope} {own : List (Str × Nat)} {P : Pk X.K αs ρ}
def XV (X : Cx) {αs : List Type} (Γ : RTs X.K αs) (t : TE) {β : Type} (R : RT X.K β) (m : M αs β) : Prop :=
  ∀ (C : C0) (s : Env αs) (σ : L2.St) (G H : Hp) (o : Addr → Option Nat), Ok C Γ s σ G H o → ∀ (x : β) (s' : Env αs), m s = some (x, s') → ∀ Q : VK,
    (∀ (v : V) (G' H' : Hp) (o' : Addr → Option Nat) (B : Addr → Prop), Ok C Γ s' σ G' H' o' → Ex G G' → Kp Γ s s' → R.rel G' H' v x B → Tmp C B G' H' o' → Q v H') → t σ H Q
theorem XV.freeze {R0 : RT X.K β} {m : M αs β} {t : TE} (h : XV X Γ t R0 m) : XV X Γ t (RT.sh R0) m := by
  classical
  intro C s σ G H o k z s' hm Q q
  refine h C s σ G H o k z s' hm Q fun v G1 H1 o1 B k1 g1 kp r1 t1 => ?_
  have ex : Ex G1 (fun a => if B a then H1 a else G1 a) := fun a ob e => by
    by_cases hb : B a
    · have := (t1 a hb).2.1; rw [this] at e; cases e
    · simp [hb, e]
  refine q v (fun a => if B a then H1 a else G1 a) H1 o1 (fun _ => False) ?_ (g1.trans ex) kp (R0.view r1 ex fun a ob hb e => by simp [hb, e]) tmp0
  refine ⟨k1.g.trans ex, fun a ob e => ?_, fun a nm h0 g0 => ?_, k1.fr, k1.dom, k1.imm, fun a ha => ?_, k1.len, fun α x y hx => ?_⟩
  · by_cases hb : B a
    · simpa [hb] using e
    · simp only [hb, if_false] at e
      exact k1.gh a ob e
  · have nb : ¬ B a := fun hb => by
      rcases (t1 a hb).2.2.2 with z | z
      · exact nm z
      · exact h0 z
    simp only [nb, if_false]
    exact k1.new a nm h0 g0
  · obtain ⟨h1, h2, h3⟩ := k1.own a ha
    have nb : ¬ B a := fun hb => ha (t1 a hb).1
    exact ⟨by simp [nb, h1], h2, h3⟩
  · obtain ⟨u, e, r⟩ := k1.sl α x y hx
    exact ⟨u, e, (x.rt Γ).grow r ex fun _ _ => rfl⟩
theorem XV.borrow {t : TE} {R : RT X.K β} {m : M αs β} {α : Type} (x : Var αs α) (h : XV X (lend x Γ) t R m) (hR : Lin R) : XV X Γ t R m := by
  intro C s σ G H o k z s' hm Q q
  obtain ⟨C', G1, o1, k1, e1, back⟩ := k.borrow x
  refine h C' s σ G1 H o1 k1 z s' hm Q fun v G' H' o' B k' e' kp r t => ?_
  obtain ⟨G2, o2, k2, e2, ei, kp2, tb⟩ := back s' G' H' o' k' e' kp
  exact q v G2 H' o2 B k2 e2 kp2 (hR _ _ _ _ _ _ r ei) (tb B t)
theorem XV.dat [Enc β] [PureE β] {t : TE} {m : M αs (List β)} (h : XV X Γ t (RT.own X.K β) m) : XV X Γ t (RT.dat X.K (List β)) m := XV.freeze h
/-- name = [..] -/
theorem XS.asgLcG [Enc β] [PureE β] {R : RT X.K α} {R' : RT X.K (List β)} {mi : M αs (List α)} {f : α → Env αs → Env αs} {mt : M αs Bool} {me : M αs β} {z : Var αs (List β)} {n : Str} {py spos : Pos} (hc : X.calm = true) (hN : X.N.Nodup) (ok : BlkOk X.N X.env.scope scope own) (O : Own αs (own.map (·.2)) f)
    (hz : X.N[z.idx]? = some n) (hl : X.env.scope.names.lookup n = some .local) (hsw : swapsWith (.ListComp elt [⟨tg, iter, ifs, 0⟩] scope pos) (some (.Name n py)) spos.line X.env = pure true)
    (hi : XI X Γb tg iter R mi) (hfix : ∀ (γ : Type) (x : Var αs γ), x.idx ∈ own.map (·.2) → (x.rt Γb).fix = true) (hΓ : ∀ (γ : Type) (x : Var αs γ), x.idx ∉ own.map (·.2) → x.rt Γt = x.rt Γb)
    (hg : ∀ (s : Shared) (H : Hp) (C : Addr) (cl : List (Str × Addr)) (fp : List Addr), XG (X.blk s H scope (compEnvC scope cl C X.env) fp) Γb Γt tg R (own.map (·.2)) f)
    (ht : ∀ (s : Shared) (H : Hp) (C : Addr) (cl : List (Str × Addr)) (fp : List Addr), XTs (X.blk s H scope (compEnvC scope cl C X.env) fp) Γt ifs mt)
    (he : ∀ (s : Shared) (H : Hp) (C : Addr) (cl : List (Str × Addr)) (fp : List Addr), XE (X.blk s H scope (compEnvC scope cl C X.env) fp) Γt elt (RT.dat X.K β) me) (hs : ∀ x, foldedSetIterable iter X.env x = pure x := by intro _; rfl)
    (tr : ∀ t : TE, XV X Γb t (RT.own X.K β) (mLc mi f O.rs mt me) → XV X Γ t R' (mLc mi f O.rs mt me)) :
    XS X P Γ (z.setR R' Γ) (.Assign [.Name n py] (.ListComp elt [⟨tg, iter, ifs, 0⟩] scope pos) spos) (sAsg z (mLc mi f O.rs mt me)) := by
  intro C s σ G H o k cc sE hm D fin
  obtain ⟨⟨x, s'⟩, e1, e2⟩ := bindE hm
  cases e2
  refine wS_of (ps_setLc (wi := wI X tg iter) (g := fun v σ H Q => ∀ s H' C cl fp, wG (X.blk s H' scope (compEnvC scope cl C X.env) fp) tg v σ H Q) (tt := fun σ H Q => ∀ s H' C cl fp, wTs (X.blk s H' scope (compEnvC scope cl C X.env) fp) ifs σ H Q) (te := fun σ H Q => ∀ s H' C cl fp, wE (X.blk s H' scope (compEnvC scope cl C X.env) fp) elt σ H Q) hc hN hz hl hsw pi_w ok
    (fun s H' C cl fp => ⟨fun pins st σ H v u Q I r h => h s H' C cl fp pins st u I r⟩) (fun s H' C cl fp => ⟨fun pins st σ H Q I h => h s H' C cl fp pins st I⟩) (fun s H' C cl fp => ⟨fun pins st σ H Q I h => (h s H' C cl fp).run pins st I⟩) hs) ?_
  refine tr _ (lc_read hi O hfix hΓ (fun C s σ G H o k v y r Q q s' H' C' cl fp => hg s' H' C' cl fp C s σ G H o k v y r Q q) (fun C s σ G H o k x s2 e Q q s' H' C' cl fp => ht s' H' C' cl fp C s σ G H o k x s2 e Q q) (fun C s σ G H o k x s2 e Q q s' H' C' cl fp => he s' H' C' cl fp C s σ G H o k x s2 e Q q)) C s σ G H o k x s' e1 _ fun v G1 H1 o1 B k1 g1 kp r t => ?_
  obtain ⟨o2, k2⟩ := k1.set z _ r t
  exact fin _ G1 H1 o2 k2
end
end Sm
namespace Sm
open PySem PySem.Spec L2
open Enc (enc)
def zipL {α β : Type} (xs : List α) (ys : List β) : Option (List (α × β)) := some (xs.zip ys)
section
variable {X : Cx} {αs : List Type} {Γ Γ1 Γ2 Γ' Γt : RTs X.K αs} {α β γ ρ : Type} {e e2 a b c tg iter : Expr} {es elts : List Expr} {pos apos cpos p1 p2 p3 pn tpos : Pos} {n n1 n2 n3 : Str} {kk : Nat}
theorem XI.zip [Enc α] [Enc β] {ma : M αs (List α)} {mb : M αs (List β)} {p : Pos} (hg : Gl X "zip") (hm : X.mg "zip" = none) (ha : XE X Γ a (RT.dat X.K (List α)) ma) (hb : XE X Γ b (RT.dat X.K (List β)) mb)
    (hp : PA X [a, b] (tCons (wE X a) (tCons (wE X b) tNil)) := by exact pa_cons pe_w (pa_cons pe_w pa_nil (star_cons rfl)) (star_cons rfl)) (hs : starEach [a, b] X.env = (false, eval a X.env) :: starEach [b] X.env := by exact star_cons rfl) (hpl : (backTo pos (starEach [b] X.env)).any (·.1) = false := by rfl) :
    XI X Γ (.Tuple elts kk tpos) (.Call (.Name "zip" p) [a, b] [] pos) (RT.dat X.K (α × β)) (m2 zipL ma mb) := by
  intro C s σ G H o k xs s' hm' Rw q
  obtain ⟨ys, s1, zs, h1, h2, h3⟩ := m2E hm'
  cases h3
  refine wI_of (pi_zip hg hm hp hs hpl) ?_
  refine ha C s σ G H o k ys s1 h1 _ fun v G1 H1 o1 B k1 g1 kp r t => ?_
  refine hb C s1 σ G1 H1 o1 k1 zs s' h2 _ fun u G2 H2 o2 B2 k2 g2 kp2 r2 t2 => ?_
  obtain ⟨p, vs, rfl, hp, h⟩ := dq_list (dq_mono g2 r)
  obtain ⟨p', us, rfl, hp', h'⟩ := dq_list r2
  refine ⟨p, p', vs, us, rfl, SqL.of (k2.gh _ _ hp), SqL.of (k2.gh _ _ hp'), q _ G2 H2 o2 k2 (g1.trans g2) (kp.trans kp2) ⟨fun i y H hy e => ?_, fun H e => ⟨vs, us, SqL.of (e _ _ hp), SqL.of (e _ _ hp'), by rw [h.len, h'.len, List.length_zip]; omega⟩, fun i y G3 H3 x H' hy e e2 yl => ?_⟩⟩
  · obtain ⟨hy1, hy2⟩ := List.getElem?_zip_eq_some.mp hy
    obtain ⟨v1, w1, _⟩ := h.get hy1
    obtain ⟨v2, w2, _⟩ := h'.get hy2
    exact ⟨vs, us, v1, v2, SqL.of (e _ _ hp), SqL.of (e _ _ hp'), w1, w2⟩
  · obtain ⟨hy1, hy2⟩ := List.getElem?_zip_eq_some.mp hy
    obtain ⟨T, x1, x2, rfl, hT, rfl, yl1, yl2⟩ := yl
    obtain ⟨v1, w1, w3⟩ := h.get hy1
    obtain ⟨v2, w2, w4⟩ := h'.get hy2
    have z1 := yl1 vs (SqL.of (e2 _ _ (e _ _ hp)))
    have z2 := yl2 us (SqL.of (e2 _ _ (e _ _ hp')))
    rw [w1] at z1; cases z1
    rw [w2] at z2; cases z2
    have al := Al.kn e2 (o := .tup [x1, x2]) hT
    exact ⟨_, al, show Dq X.K _ _ (.tuple [enc y.1, enc y.2]) from .tup (SqT.of upd_same) (.cons (dq_mono (e.trans al.g) w3) (.cons (dq_mono (e.trans al.g) w4) .nil))⟩
theorem XI.rev [Enc α] {ma : M αs (List α)} {p : Pos} (hg : Gl X "reversed") (hm : X.mg "reversed" = none) (ha : XE X Γ a (RT.dat X.K (List α)) ma) (hs : starEach [a] X.env = [(false, eval a X.env)] := by exact star1 rfl) :
    XI X Γ tg (.Call (.Name "reversed" p) [a] [] pos) (RT.dat X.K α) (m1 revl ma) := by
  intro C s σ G H o k xs s' hm' Rw q
  obtain ⟨ys, h1, h2⟩ := m1E hm'
  cases h2
  refine wI_of (pi_reversed hg hm (pa_cons pe_w pa_nil hs) hs) ?_
  refine ha C s σ G H o k ys s' h1 _ fun v G1 H1 o1 B k1 g1 kp r t => ?_
  obtain ⟨p, vs, rfl, hp, h⟩ := dq_list r
  have hl := h.len
  have at_ : ∀ i y, ys.reverse[i]? = some y → i < ys.length ∧ ys[ys.length - 1 - i]? = some y := fun i y hy => by
    have hi : i < ys.length := by have := (List.getElem?_eq_some_iff.mp hy).1; simpa using this
    exact ⟨hi, by rw [List.getElem?_reverse hi] at hy; exact hy⟩
  refine ⟨p, vs, rfl, SqL.of (k1.gh _ _ hp), q _ G1 H1 o1 k1 g1 kp ⟨fun i y H hy e => ?_, fun H e => by show vs.length ≤ _; rw [List.length_reverse, hl]; exact Nat.le_refl _, fun i y G2 H2 x H' hy e e2 yl => ?_⟩⟩
  · obtain ⟨h2, h3⟩ := at_ i y hy
    obtain ⟨v, h4, _⟩ := h.get h3
    exact ⟨by rw [hl]; exact h2, vs, v, SqL.of (e _ _ hp), by rw [hl]; exact h4⟩
  · obtain ⟨h2, h3⟩ := at_ i y hy
    obtain ⟨rfl, yl⟩ := yl
    obtain ⟨v, h4, h5⟩ := h.get h3
    have := yl vs (SqL.of (e2 _ _ (e _ _ hp)))
    rw [hl, h4] at this; cases this
    exact ⟨G2, .refl e2, dq_mono e h5⟩
def sExt (x : Var αs (List α)) (me : M αs (List α)) : MS αs ρ := fun s => (x.get s).bind fun _ => (me s).bind fun p => (x.get p.2).bind fun xs => if xs.length + p.1.length ≤ 1000000 then some (.nx, x.set (some (xs ++ p.1)) p.2) else none
variable {P : Pk X.K αs ρ}
theorem XS.ext [Enc α] [PureE α] {x : Var αs (List α)} {me : M αs (List α)} (hpe : PE X (.Name n pn) (tVar x.idx)) (hx : Sub (x.rt Γ) (RT.own X.K α)) (he : XE X Γ e (RT.dat X.K (List α)) me)
    (hp : PE X (.Call (.Attribute (.Name n pn) "extend" apos) [e] [] cpos) (tBM X.K "list" rExtend (tVar x.idx) (tCons (wE X e) tNil)) := by exact pe_bm PySem.F.plainAttrs_list PySem.F.slot_list_extend PySem.F.type_list_extend mt_extend (pv _) (pa_cons pe_w pa_nil (star_cons rfl)))
    (hs : swapsWith (.Call (.Attribute (.Name n pn) "extend" apos) [e] [] cpos) none pos.line X.env = pure false := by rfl) : XS X P Γ Γ (.Expr (.Call (.Attribute (.Name n pn) "extend" apos) [e] [] cpos) pos) (sExt x me) := by
  intro C s σ G H o k cc sE hm D fin
  obtain ⟨xs0, e0, e2⟩ := bindE hm
  obtain ⟨⟨v, s1⟩, e1, e3⟩ := bindE e2
  obtain ⟨xs, e5, e6⟩ := bindE e3
  obtain ⟨hl, e8⟩ := ite_some e6.symm.symm
  cases e8
  refine wS_of (ps_expr hp hs) ?_
  obtain ⟨p0, vs0, h0, _, h00, _, _⟩ := k.ownAt hx e0
  refine ⟨_, h0, .inl ⟨rfl, _, SqL.of h00⟩, ?_⟩
  refine he C s σ G H o k v s1 e1 _ fun w G1 H1 o1 B k1 g1 kp1 r1 t1 => ?_
  obtain ⟨p, vs, h1, h2, h3, h4, h9⟩ := k1.ownAt hx e5
  rw [h0] at h1; cases h1
  obtain ⟨pb, ws, rfl, hb, hw⟩ := dq_list r1
  refine ⟨p0, pb, vs, ws, rfl, rfl, h3, k1.gh _ _ hb, by rw [h4.len, hw.len]; exact Nat.le_trans hl (by decide), ?_⟩
  exact fin σ G1 _ o1 (k1.mut x h0 h2 rfl (hx.of h9 ⟨p0, _, rfl, h2, upd_same, All2.app (P := fun v x => Dq X.K G1 v (enc x)) h4 hw⟩))
def sRev (x : Var αs (List α)) : MS αs ρ := fun s => (x.get s).bind fun xs => some (.nx, x.set (some xs.reverse) s)
theorem XS.rev [Enc α] [PureE α] {x : Var αs (List α)} (hpe : PE X (.Name n pn) (tVar x.idx)) (hx : Sub (x.rt Γ) (RT.own X.K α))
    (hp : PE X (.Call (.Attribute (.Name n pn) "reverse" apos) [] [] cpos) (tBM0 X.K "list" rReverse (tVar x.idx)) := by exact pe_bm0 PySem.F.plainAttrs_list PySem.F.slot_list_reverse PySem.F.type_list_reverse mt_reverse (pv _))
    (hs : swapsWith (.Call (.Attribute (.Name n pn) "reverse" apos) [] [] cpos) none pos.line X.env = pure false := by rfl) : XS X P Γ Γ (.Expr (.Call (.Attribute (.Name n pn) "reverse" apos) [] [] cpos) pos) (sRev x) := by
  intro C s σ G H o k cc sE hm D fin
  obtain ⟨xs, e0, e2⟩ := bindE hm
  cases e2
  refine wS_of (ps_expr hp hs) ?_
  obtain ⟨p0, vs, h0, h2, h3, h4, h9⟩ := k.ownAt hx e0
  refine ⟨_, h0, .inl ⟨rfl, _, SqL.of h3⟩, p0, vs, rfl, rfl, h3, ?_⟩
  exact fin σ G _ o (k.mut x h0 h2 rfl (hx.of h9 ⟨p0, _, rfl, h2, upd_same, All2.rev (P := fun v x => Dq X.K G v (enc x)) h4⟩))
def sClr (x : Var αs (List α)) : MS αs ρ := fun s => (x.get s).bind fun _ => some (.nx, x.set (some []) s)
end
end Sm
namespace Sm
open PySem PySem.Spec L2
def Le : {αs : List Type} → Env αs → Env αs → Prop
  | [], _, _ => True
  | _ :: _, q, s => (q.1 = none ∨ q.1 = s.1) ∧ Le q.2 s.2
theorem Le.refl : ∀ {αs : List Type} (s : Env αs), Le s s
  | [], _ => trivial
  | _ :: _, s => ⟨.inr rfl, Le.refl s.2⟩
theorem Le.trans : ∀ {αs : List Type} {q s t : Env αs}, Le q s → Le s t → Le q t
  | [], _, _, _, _, _ => trivial
  | _ :: _, q, s, t, h, k => ⟨by
      rcases h.1 with h1 | h1
      · exact .inl h1
      · rcases k.1 with k1 | k1
        · exact .inl (h1.trans k1)
        · exact .inr (h1.trans k1), Le.trans h.2 k.2⟩
theorem Le.get : ∀ {αs : List Type} {α : Type} {q s : Env αs} (x : Var αs α) {a : α}, Le q s → x.get q = some a → x.get s = some a
  | _, _, _, _, .vz, _, h, e => by
    rcases h.1 with h1 | h1
    · exact absurd (h1.symm.trans e) (by simp)
    · exact h1.symm.trans e
  | _, _, _, _, .vs x, _, h, e => Le.get x h.2 e
theorem Le.set : ∀ {αs : List Type} {α : Type} {q s : Env αs} (x : Var αs α) (a : Option α), Le q s → Le (x.set a q) (x.set a s)
  | _, _, _, _, .vz, _, h => ⟨.inr rfl, h.2⟩
  | _, _, _, _, .vs x, a, h => ⟨h.1, Le.set x a h.2⟩
theorem Le.set' : ∀ {αs : List Type} {α : Type} {q s : Env αs} (x : Var αs α) {a b : Option α}, (a = none ∨ a = b) → Le q s → Le (x.set a q) (x.set b s)
  | _, _, _, _, .vz, _, _, e, h => ⟨e, h.2⟩
  | _, _, _, _, .vs x, _, _, e, h => ⟨h.1, Le.set' x e h.2⟩
theorem Le.get' : ∀ {αs : List Type} {α : Type} {q s : Env αs} (x : Var αs α), Le q s → (x.get q = none ∨ x.get q = x.get s)
  | _, _, _, _, .vz, h => h.1
  | _, _, _, _, .vs x, h => Le.get' x h.2
theorem Le.nones : ∀ {ls : List Type} (s : Env ls), Le (Sm.nones ls) s
  | [], _ => trivial
  | _ :: _, s => ⟨.inl rfl, Le.nones s.2⟩
theorem Le.ext : ∀ {ls ps : List Type} {q : Env ps} {s : Env (ps ++ ls)}, Le q (prj ls ps s) → Le (Sm.ext ls ps q) s
  | _, [], _, s, _ => Le.nones s
  | _, _ :: _, _, _, h => ⟨h.1, Le.ext h.2⟩
theorem Le.prj : ∀ {ls ps : List Type} {q s : Env (ps ++ ls)}, Le q s → Le (Sm.prj ls ps q) (Sm.prj ls ps s)
  | _, [], _, _, _ => trivial
  | _, _ :: _, _, _, h => ⟨h.1, Le.prj h.2⟩
/-- what is known stays known -/
class Mo {αs : List Type} {β : Type} (m : Env αs → Option (β × Env αs)) : Prop where
  mo : ∀ {q s : Env αs} {b : β} {q' : Env αs}, Le q s → m q = some (b, q') → ∃ s', m s = some (b, s') ∧ Le q' s'
class MoF {αs : List Type} {α : Type} (f : α → Env αs → Env αs) : Prop where
  mo : ∀ {q s : Env αs} (y : α), Le q s → Le (f y q) (f y s)
class MoR {αs : List Type} (r : Env αs → Env αs → Env αs) : Prop where
  mo : ∀ {q s q2 s2 : Env αs}, Le q s → Le q2 s2 → Le (r q q2) (r s s2)
section
variable {αs : List Type} {α β γ δ ρ τ ω : Type}
theorem Mo.bd {m : Env αs → Option (β × Env αs)} {g : β → Env αs → Option (γ × Env αs)} (h : Mo m) (k : ∀ b, Mo (g b)) : Mo (fun s => (m s).bind fun p => g p.1 p.2) := ⟨fun l e => by
  obtain ⟨⟨b, q1⟩, e1, e2⟩ := bindE e
  obtain ⟨s1, e3, l1⟩ := h.mo l e1
  obtain ⟨s2, e4, l2⟩ := (k b).mo l1 e2
  exact ⟨s2, by rw [e3]; exact e4, l2⟩⟩
theorem Mo.op {o : Option β} {g : β → Env αs → Option (γ × Env αs)} (k : ∀ b, Mo (g b)) : Mo (fun s => o.bind fun b => g b s) := ⟨fun l e => by
  obtain ⟨b, e1, e2⟩ := bindE e
  obtain ⟨s2, e4, l2⟩ := (k b).mo l e2
  exact ⟨s2, by rw [e1]; exact e4, l2⟩⟩
theorem Mo.rd {x : Var αs α} {g : α → Env αs → Option (γ × Env αs)} (k : ∀ b, Mo (g b)) : Mo (fun s => (x.get s).bind fun b => g b s) := ⟨fun l e => by
  obtain ⟨b, e1, e2⟩ := bindE e
  obtain ⟨s2, e4, l2⟩ := (k b).mo l e2
  exact ⟨s2, by rw [Le.get x l e1]; exact e4, l2⟩⟩
theorem Mo.rt {b : β} : Mo (fun s : Env αs => some (b, s)) := ⟨fun l e => by cases e; exact ⟨_, rfl, l⟩⟩
theorem Mo.st {b : β} {x : Var αs α} {a : Option α} : Mo (fun s : Env αs => some (b, x.set a s)) := ⟨fun l e => by cases e; exact ⟨_, rfl, Le.set x _ l⟩⟩
theorem Mo.no : Mo (fun _ : Env αs => (none : Option (β × Env αs))) := ⟨fun l e => by cases e⟩
theorem Mo.if {c : Prop} [Decidable c] {m n : Env αs → Option (β × Env αs)} (h : Mo m) (k : Mo n) : Mo (fun s => if c then m s else n s) := ⟨fun l e => by
  by_cases hc : c
  · simp only [if_pos hc] at e ⊢; exact h.mo l e
  · simp only [if_neg hc] at e ⊢; exact k.mo l e⟩
instance {b : β} : Mo (mC b : M αs β) := Mo.rt
instance {x : Var αs α} : Mo (mV x) := Mo.rd fun _ => Mo.rt
instance {f : α → Option β} {m : M αs α} [h : Mo m] : Mo (m1 f m) := Mo.bd (g := fun a s => (f a).bind fun b => some (b, s)) h fun _ => Mo.op fun _ => Mo.rt
instance {f : α → β → Option γ} {m : M αs α} {n : M αs β} [h : Mo m] [k : Mo n] : Mo (m2 f m n) := Mo.bd (g := fun a s => (n s).bind fun q => (f a q.1).bind fun c => some (c, q.2)) h fun _ => Mo.bd (g := fun b s => (f _ b).bind fun c => some (c, s)) k fun _ => Mo.op fun _ => Mo.rt
instance {f : α → β → γ → Option δ} {m : M αs α} {n : M αs β} {l : M αs γ} [h : Mo m] [k : Mo n] [i : Mo l] : Mo (m3 f m n l) := Mo.bd (g := fun a s => (n s).bind fun q => (l q.2).bind fun r => (f a q.1 r.1).bind fun c => some (c, r.2)) h fun _ => Mo.bd (g := fun b s => (l s).bind fun r => (f _ b r.1).bind fun c => some (c, r.2)) k fun _ => Mo.bd (g := fun b s => (f _ _ b).bind fun c => some (c, s)) i fun _ => Mo.op fun _ => Mo.rt
instance {c : M αs Bool} {m n : M αs β} [h : Mo c] [k : Mo m] [i : Mo n] : Mo (mIte c m n) := Mo.bd (g := fun b s => if b = true then m s else n s) h fun _ => Mo.if k i
instance {m n : M αs Bool} [h : Mo m] [k : Mo n] : Mo (mAnd m n) := Mo.bd (g := fun b s => if b = true then n s else some (false, s)) h fun _ => Mo.if k Mo.rt
instance {m n : M αs Bool} [h : Mo m] [k : Mo n] : Mo (mOr m n) := Mo.bd (g := fun b s => if b = true then some (true, s) else n s) h fun _ => Mo.if Mo.rt k
instance {f g : Int → Int → Option Bool} {m n l : M αs Int} [h : Mo m] [k : Mo n] [i : Mo l] : Mo (chn f g m n l) :=
  Mo.bd (g := fun a s => (n s).bind fun q => (f a q.1).bind fun c => if c = true then (l q.2).bind fun r => (g q.1 r.1).bind fun d => some (d, r.2) else some (false, q.2)) h fun a =>
    Mo.bd (g := fun b s => (f a b).bind fun c => if c = true then (l s).bind fun r => (g b r.1).bind fun d => some (d, r.2) else some (false, s)) k fun b => Mo.op fun c => Mo.if (Mo.bd (g := fun r s => (g b r).bind fun d => some (d, s)) i fun _ => Mo.op fun _ => Mo.rt) Mo.rt
instance : Mo (aNil : M αs (Env [])) := Mo.rt (b := (() : Unit))
instance {r : List Type} {m : M αs α} {n : M αs (Env r)} [h : Mo m] [k : Mo n] : Mo (aV m n) := Mo.bd (γ := Env (α :: r)) (g := fun a s => (n s).bind fun q => some ((some a, q.1), q.2)) h fun a => Mo.bd (γ := Env (α :: r)) (g := fun q s => some ((some a, q), s)) k fun _ => Mo.rt
instance {r : List Type} {x : Var αs α} {n : M αs (Env r)} [k : Mo n] : Mo (aM x n) := Mo.rd (γ := Env (α :: r)) fun _ => Mo.bd (γ := Env (α :: r)) (g := fun q s => (x.get s).bind fun a => some ((some a, q), s)) k fun _ => Mo.rd fun _ => Mo.rt
theorem Ks.put_le : ∀ {ps : List Type} (κ : Ks αs ps) (as : Env ps) {q s : Env αs}, Le q s → Le (κ.put as q) (κ.put as s)
  | _, .nil, _, _, _, h => h
  | _, .v k, as, _, _, h => Ks.put_le k as.2 h
  | _, .m x k, as, _, _, h => Le.set x as.1 (Ks.put_le k as.2 h)
theorem Mo.put {ps : List Type} {κ : Ks αs ps} {b : β} {as : Env ps} : Mo (fun s : Env αs => some (b, κ.put as s)) := ⟨fun l e => by cases e; exact ⟨_, rfl, κ.put_le as l⟩⟩
instance {ps : List Type} {κ : Ks αs ps} {f : Env ps → Option (ρ × Env ps)} {ma : M αs (Env ps)} [h : Mo ma] : Mo (mCall κ f ma) := Mo.bd (g := fun as s => (f as).bind fun q => some (q.1, κ.put q.2 s)) h fun _ => Mo.op fun _ => Mo.put
instance {f : Env [α] → Option (ρ × Env [α])} {ma : M αs α} [h : Mo ma] : Mo (mCallT f ma) := Mo.bd (g := fun a s => (f ((some a, ()) : Option α × Unit)).bind fun q => some (q.1, s)) h fun _ => Mo.op fun _ => Mo.rt
instance {ps : List Type} {x0 : τ} {f : Env (τ :: ps) → Option (ρ × Env (τ :: ps))} {ma : M αs (Env ps)} [h : Mo ma] : Mo (mMake x0 f ma) := Mo.bd (g := fun as s => (f ((some x0, as) : Option τ × Env ps)).bind fun q => (show Option τ from q.2.1).bind fun t => some (t, s)) h fun _ => Mo.op fun _ => Mo.op fun _ => Mo.rt
instance {x : Var αs (List α)} : Mo (mPop x) := Mo.rd fun xs => Mo.op fun _ => Mo.st
instance {neg : Bool} {f : Env [τ, α] → Option (Bool × Env [τ, α])} {ma : M αs α} {mo : M αs τ} [h : Mo ma] [k : Mo mo] : Mo (mIn neg f ma mo) :=
  Mo.bd (g := fun a s => (mo s).bind fun q => (f ((some q.1, (some a, ())) : Option τ × (Option α × Unit))).bind fun r => some (if neg then !r.1 else r.1, q.2)) h fun a => Mo.bd (g := fun b s => (f ((some b, (some a, ())) : Option τ × (Option α × Unit))).bind fun r => some (if neg then !r.1 else r.1, s)) k fun _ => Mo.op fun _ => Mo.rt
instance {f : Env [τ] → Option (Int × Env [τ])} {mo : M αs τ} [h : Mo mo] : Mo (mLenO f mo) := Mo.bd (g := fun b s => (f ((some b, ()) : Option τ × Unit)).bind fun r => (len63 r.1).bind fun n => some (n, s)) h fun _ => Mo.op fun _ => Mo.op fun _ => Mo.rt
instance {x : Var αs (Option TreeD)} : Mo (mLenP x) := Mo.rd fun _ => Mo.op fun _ => Mo.rt
instance {x : Var αs α} : MoF (fun (y : α) (s : Env αs) => x.set (some y) s) := ⟨fun _ h => Le.set x _ h⟩
instance {x : Var αs α} {y : Var αs β} : MoF (fun (z : α × β) (s : Env αs) => y.set (some z.2) (x.set (some z.1) s)) := ⟨fun _ h => Le.set y _ (Le.set x _ h)⟩
instance {x : Var αs α} {y : Var αs β} {z : Var αs γ} : MoF (fun (w : T3 α β γ) (s : Env αs) => z.set (some w.c) (y.set (some w.b) (x.set (some w.a) s))) := ⟨fun _ h => Le.set z _ (Le.set y _ (Le.set x _ h))⟩
instance {x : Var αs α} : MoR (Own.one x).rs := ⟨fun h k => Le.set' x (Le.get' x h) k⟩
instance {x : Var αs α} {z : Var αs β} {e} : MoR (Own.two x z e).rs := ⟨fun h k => Le.set' z (Le.get' z h) (Le.set' x (Le.get' x h) k)⟩
theorem loopC_mo {f : α → Env αs → Env αs} {rs : Env αs → Env αs → Env αs} {mt : M αs Bool} {me : M αs β} [a : MoF f] [b : MoR rs] [h : Mo mt] [k : Mo me] : ∀ xs : List α, Mo (fun s => loopC f rs mt me xs s)
  | [] => Mo.rt
  | x :: xs => ⟨fun {q s _ _} l e => by
    have ih := loopC_mo (f := f) (rs := rs) (mt := mt) (me := me) xs
    obtain ⟨⟨c, q1⟩, e1, e2⟩ := bindE (show (mt (f x q)).bind _ = _ from e)
    obtain ⟨s1, e3, l1⟩ := h.mo (a.mo x l) e1
    cases c with
    | false =>
      obtain ⟨s2, e4, l2⟩ := ih.mo (b.mo l l1) e2
      exact ⟨s2, by show (mt (f x s)).bind _ = _; rw [e3]; exact e4, l2⟩
    | true =>
      obtain ⟨⟨y, q2⟩, e5, e6⟩ := bindE (show (me q1).bind _ = _ from e2)
      obtain ⟨s2, e7, l2⟩ := k.mo l1 e5
      obtain ⟨⟨ys, q3⟩, e8, e9⟩ := bindE e6
      obtain ⟨s3, e10, l3⟩ := ih.mo (b.mo l l2) e8
      cases e9
      refine ⟨s3, ?_, l3⟩
      show (mt (f x s)).bind _ = _
      rw [e3]
      show (me s1).bind _ = _
      rw [e7]
      show (loopC f rs mt me xs (rs s s2)).bind _ = _
      have e10' : loopC f rs mt me xs (rs s s2) = _ := e10
      rw [e10']; rfl⟩
instance {mi : M αs (List α)} {f : α → Env αs → Env αs} {rs : Env αs → Env αs → Env αs} {mt : M αs Bool} {me : M αs β} [i : Mo mi] [a : MoF f] [b : MoR rs] [h : Mo mt] [k : Mo me] : Mo (mLc mi f rs mt me) :=
  Mo.bd (g := fun (xs : List α) s => if xs.length ≤ 1000000 then loopC f rs mt me xs s else none) i fun xs => Mo.if (loopC_mo xs) Mo.no
instance : Mo (sSkip : MS αs ρ) := Mo.rt
instance : Mo (sBk : MS αs ρ) := Mo.rt
instance : Mo (sCt : MS αs ρ) := Mo.rt
instance : Mo (sFail : MS αs ρ) := Mo.no
instance {m n : MS αs ρ} [h : Mo m] [k : Mo n] : Mo (sSeq m n) := Mo.bd (g := fun (c : Ctl ρ) s => match c with | .nx => n s | .bk => some ((Ctl.bk : Ctl ρ), s) | .ct => some ((Ctl.ct : Ctl ρ), s) | .rt r => some (Ctl.rt r, s)) h fun c => by
  cases c with
  | nx => exact k
  | bk => exact Mo.rt
  | ct => exact Mo.rt
  | rt r => exact Mo.rt
instance {x : Var αs α} {m : M αs α} [h : Mo m] : Mo (sAsg x m : MS αs ρ) := Mo.bd (g := fun a s => some ((Ctl.nx : Ctl ρ), x.set (some a) s)) h fun _ => Mo.st
instance {m : M αs ρ} [h : Mo m] : Mo (sRet m) := Mo.bd (g := fun a s => some (Ctl.rt a, s)) h fun _ => Mo.rt
instance {c : M αs Bool} {m n : MS αs ρ} [h : Mo c] [k : Mo m] [i : Mo n] : Mo (sIf c m n) := Mo.bd (g := fun b s => if b = true then m s else n s) h fun _ => Mo.if k i
instance {m : M αs α} [h : Mo m] : Mo (sDrop m : MS αs ρ) := Mo.bd (g := fun _ s => some ((Ctl.nx : Ctl ρ), s)) h fun _ => Mo.rt
instance {x : Var αs (List α)} {mi : M αs Int} {me : M αs α} [h : Mo mi] [k : Mo me] : Mo (sSetI x mi me : MS αs ρ) :=
  Mo.bd (g := fun v s => (x.get s).bind fun _ => (mi s).bind fun q => (x.get q.2).bind fun xs => (setAt xs q.1 v).bind fun ys => some ((Ctl.nx : Ctl ρ), x.set (some ys) q.2)) k fun v =>
    Mo.rd fun _ => Mo.bd (g := fun i s => (x.get s).bind fun xs => (setAt xs i v).bind fun ys => some ((Ctl.nx : Ctl ρ), x.set (some ys) s)) h fun _ => Mo.rd fun _ => Mo.op fun _ => Mo.st
instance {x : Var αs (List α)} {me : M αs α} [k : Mo me] : Mo (sApp x me : MS αs ρ) :=
  Mo.rd fun _ => Mo.bd (g := fun v s => (x.get s).bind fun xs => if xs.length < 1000000 then some ((Ctl.nx : Ctl ρ), x.set (some (xs ++ [v])) s) else none) k fun _ => Mo.rd fun _ => Mo.if Mo.st Mo.no
instance {x : Var αs Int} {f : Int → Int → Option Int} {me : M αs Int} [k : Mo me] : Mo (sAug x f me : MS αs ρ) :=
  Mo.rd fun a => Mo.bd (g := fun b s => (f a b).bind fun c => some ((Ctl.nx : Ctl ρ), x.set (some c) s)) k fun _ => Mo.op fun _ => Mo.st
instance {f : α → Env αs → Env αs} {m : M αs α} [a : MoF f] [h : Mo m] : Mo (sAsgG f m : MS αs ρ) := Mo.bd (g := fun y s => some ((Ctl.nx : Ctl ρ), f y s)) h fun y => ⟨fun l e => by cases e; exact ⟨_, rfl, a.mo y l⟩⟩
instance {x : Var αs α} {y : Var αs β} {m : M αs α} {l : M αs β} [h : Mo m] [k : Mo l] : Mo (sPar x y m l : MS αs ρ) :=
  Mo.bd (g := fun a s => (l s).bind fun q => some ((Ctl.nx : Ctl ρ), y.set (some q.1) (x.set (some a) q.2))) h fun a => Mo.bd (g := fun b s => some ((Ctl.nx : Ctl ρ), y.set (some b) (x.set (some a) s))) k fun _ => ⟨fun l e => by cases e; exact ⟨_, rfl, Le.set y _ (Le.set x _ l)⟩⟩
instance {x : Var αs (List α)} {me : M αs (List α)} [k : Mo me] : Mo (sExt x me : MS αs ρ) :=
  Mo.rd fun _ => Mo.bd (g := fun v s => (x.get s).bind fun xs => if xs.length + v.length ≤ 1000000 then some ((Ctl.nx : Ctl ρ), x.set (some (xs ++ v)) s) else none) k fun _ => Mo.rd fun _ => Mo.if Mo.st Mo.no
instance {x : Var αs (List α)} : Mo (sRev x : MS αs ρ) := Mo.rd fun _ => Mo.st
instance {x : Var αs (List α)} : Mo (sClr x : MS αs ρ) := Mo.rd fun _ => Mo.st
instance {x : Var αs (Option TreeD)} {i j l : Int} : Mo (sT0 x i j l : MS αs ρ) := Mo.rd fun _ => Mo.if Mo.st Mo.no
instance {x : Var αs (Option TreeD)} {y z : Var αs Int} : Mo (sTA x y z : MS αs ρ) := Mo.rd fun _ => Mo.op fun _ => Mo.rd fun _ => Mo.rd fun _ => Mo.op fun _ => Mo.if Mo.st Mo.no
theorem loopF_mo {f : α → Env αs → Env αs} {m : MS αs ρ} [a : MoF f] [h : Mo m] : ∀ xs : List α, Mo (fun s => loopF f m xs s)
  | [] => Mo.rt
  | x :: xs => ⟨fun {q s _ _} l e => by
    have ih := loopF_mo (f := f) (m := m) xs
    obtain ⟨⟨c, q1⟩, e1, e2⟩ := bindE (show (m (f x q)).bind _ = _ from e)
    obtain ⟨s1, e3, l1⟩ := h.mo (a.mo x l) e1
    have e0 : loopF f m (x :: xs) s = (m (f x s)).bind fun p => match p.1 with
      | .nx => loopF f m xs p.2
      | .ct => loopF f m xs p.2
      | .bk => some ((Ctl.nx : Ctl ρ), p.2)
      | .rt r => some (.rt r, p.2) := rfl
    cases c with
    | nx =>
      obtain ⟨s2, e4, l2⟩ := ih.mo l1 e2
      exact ⟨s2, by show loopF f m (x :: xs) s = _; rw [e0, e3]; exact e4, l2⟩
    | ct =>
      obtain ⟨s2, e4, l2⟩ := ih.mo l1 e2
      exact ⟨s2, by show loopF f m (x :: xs) s = _; rw [e0, e3]; exact e4, l2⟩
    | bk => cases e2; exact ⟨s1, by show loopF f m (x :: xs) s = _; rw [e0, e3]; rfl, l1⟩
    | rt r => cases e2; exact ⟨s1, by show loopF f m (x :: xs) s = _; rw [e0, e3]; rfl, l1⟩⟩
instance {mi : M αs (List α)} {f : α → Env αs → Env αs} {m : MS αs ρ} [i : Mo mi] [a : MoF f] [h : Mo m] : Mo (sFor mi f m) := Mo.bd (g := fun xs s => loopF f m xs s) i fun xs => loopF_mo xs
theorem loopW_mo {mc : M αs Bool} {m : MS αs ρ} [i : Mo mc] [h : Mo m] : ∀ n : Nat, Mo (fun s => loopW mc m n s)
  | 0 => Mo.no
  | n + 1 => Mo.bd (g := fun b s => if b = true then (m s).bind fun q => match q.1 with
    | .nx => loopW mc m n q.2
    | .ct => loopW mc m n q.2
    | .bk => some ((Ctl.nx : Ctl ρ), q.2)
    | .rt r => some (.rt r, q.2) else some ((Ctl.nx : Ctl ρ), s)) i fun b => Mo.if (Mo.bd (g := fun c s => match c with
    | .nx => loopW mc m n s
    | .ct => loopW mc m n s
    | .bk => some ((Ctl.nx : Ctl ρ), s)
    | .rt r => some (.rt r, s)) h fun c => by
      cases c with
      | nx => exact loopW_mo n
      | ct => exact loopW_mo n
      | bk => exact Mo.rt
      | rt r => exact Mo.rt) Mo.rt
instance {mc : M αs Bool} {m : MS αs ρ} [i : Mo mc] [h : Mo m] : Mo (sWhile mc m) := ⟨fun l e => by
  obtain ⟨n, e1⟩ := sWhile_to e
  obtain ⟨s2, e2, l2⟩ := (loopW_mo (mc := mc) (m := m) n).mo l e1
  exact ⟨s2, sWhile_of e2, l2⟩⟩
inductive Lp (τ ω : Type) where
  | nx (t : τ) | bk (t : τ) | rt (r : ω)
def forL (B : τ → α → Option (Lp τ ω)) : List α → τ → Option (Lp τ ω)
  | [], t => some (.nx t)
  | x :: xs, t => (B t x).bind fun p => match p with
    | .nx t => forL B xs t
    | .bk t => some (.nx t)
    | .rt r => some (.rt r)
def forM (B : τ → α → Option τ) : List α → τ → Option τ
  | [], t => some t
  | x :: xs, t => (B t x).bind fun t => forM B xs t
def whN (c : τ → Option Bool) (B : τ → Option (Lp τ ω)) : Nat → τ → Option (Lp τ ω)
  | 0, _ => none
  | n + 1, t => (c t).bind fun b => if b = true then (B t).bind fun p => match p with
    | .nx t => whN c B n t
    | .bk t => some (.nx t)
    | .rt r => some (.rt r) else some (.nx t)
open Classical in
noncomputable def whL (c : τ → Option Bool) (B : τ → Option (Lp τ ω)) (t : τ) : Option (Lp τ ω) := if h : ∃ n r, whN c B n t = some r then some (Classical.choose (Classical.choose_spec h)) else none
def lcS (p : τ → α → Option Bool) (g : τ → α → Option (β × τ)) : List α → τ → Option (List β × τ)
  | [], t => some ([], t)
  | x :: xs, t => (p t x).bind fun b => if b = true then (g t x).bind fun q => (lcS p g xs q.2).bind fun r => some (q.1 :: r.1, r.2) else lcS p g xs t
def lcO (p : α → Option Bool) (g : α → Option β) : List α → Option (List β)
  | [] => some []
  | x :: xs => (p x).bind fun b => if b = true then (g x).bind fun y => (lcO p g xs).bind fun ys => some (y :: ys) else lcO p g xs
def cap {α β : Type} (xs : List α) (o : Option β) : Option β := if xs.length ≤ 1000000 then o else none
def appO {α : Type} (xs : List α) (v : α) : Option (List α) := if xs.length < 1000000 then some (xs ++ [v]) else none
def extO {α : Type} (xs ys : List α) : Option (List α) := if xs.length + ys.length ≤ 1000000 then some (xs ++ ys) else none
def popO {α : Type} (xs : List α) : Option α := xs[xs.length - 1]?
def memB {α : Type} [DecidableEq α] (x : α) (xs : List α) : Bool := decide (x ∈ xs)
theorem memB_eq {α : Type} [DecidableEq α] (x : α) (xs : List α) : memB x xs = decide (x ∈ xs) := rfl
def VX (m : M αs β) (s : Env αs) (a : β) : Prop := m s = some (a, s)
theorem VX.c {b : β} {s : Env αs} : VX (mC b) s b := rfl
theorem VX.v {x : Var αs α} {s : Env αs} {a : α} (h : x.get s = some a) : VX (mV x) s a := by unfold VX mV; rw [h]; rfl
theorem VX.t1 {f : α → Option β} {m : M αs α} {s : Env αs} {a : α} {b : β} (h : VX m s a) (e : f a = some b) : VX (m1 f m) s b := by
  unfold VX at *; unfold m1; rw [h]; show (f a).bind _ = _; rw [e]; rfl
theorem VX.t2 {f : α → β → Option γ} {m : M αs α} {n : M αs β} {s : Env αs} {a : α} {b : β} {c : γ} (h : VX m s a) (k : VX n s b) (e : f a b = some c) : VX (m2 f m n) s c := by
  unfold VX at *; unfold m2; rw [h]; show (n s).bind _ = _; rw [k]; show (f a b).bind _ = _; rw [e]; rfl
theorem VX.and {m n : M αs Bool} {s : Env αs} {a b : Bool} (h : VX m s a) (k : VX n s b) : VX (mAnd m n) s (a && b) := by
  unfold VX at *; unfold mAnd; rw [h]; show (if a = true then n s else _) = _; cases a
  · rfl
  · exact k
theorem VX.or {m n : M αs Bool} {s : Env αs} {a b : Bool} (h : VX m s a) (k : VX n s b) : VX (mOr m n) s (a || b) := by
  unfold VX at *; unfold mOr; rw [h]; show (if a = true then _ else n s) = _; cases a
  · exact k
  · rfl
theorem VX.ite {c : M αs Bool} {m n : M αs β} {s : Env αs} {b : Bool} {x y : β} (h : VX c s b) (k : VX m s x) (i : VX n s y) : VX (mIte c m n) s (if b = true then x else y) := by
  unfold VX at *; unfold mIte; rw [h]; show (if b = true then m s else n s) = _; cases b
  · exact i
  · exact k
theorem VX.chn {f g : Int → Int → Option Bool} {m n l : M αs Int} {s : Env αs} {a b c : Int} {u w : Bool} (h : VX m s a) (k : VX n s b) (i : VX l s c) (e : f a b = some u) (e2 : g b c = some w) : VX (chn f g m n l) s (u && w) := by
  unfold VX at *; unfold Sm.chn; rw [h]; show (n s).bind _ = _; rw [k]; show (f a b).bind _ = _; rw [e]; cases u
  · rfl
  · show (l s).bind _ = _; rw [i]; show (g b c).bind _ = _; rw [e2]; rfl
theorem VX.lst {m : M αs (List α)} {s : Env αs} {xs : List α} (h : VX m s xs) (e : xs.length ≤ 1000000) : VX (m1 lstO m) s xs := .t1 h (lstO_ok e)
theorem VX.lstN (n : Nat) {m : M αs (List α)} {s : Env αs} {xs : List α} (h : VX m s xs) (e : xs.length = n) (d : n ≤ 1000000) : VX (m1 lstO m) s xs := .lst h (e ▸ d)
theorem VX.lenP {x : Var αs (Option TreeD)} {s : Env αs} {t : TreeD} (h : x.get s = some (some t)) : VX (mLenP x) s (t.ps.length : Int) := by
  unfold VX mLenP; rw [h]; rfl
/-- the program m, run from s, and the rest, are what o tells -/
def SX (m : Env αs → Option (β × Env αs)) (s : Env αs) (o : Option ω) (Φ : β → Env αs → Option ω → Prop) : Prop := ∀ w, o = some w → ∃ b s' o', m s = some (b, s') ∧ Φ b s' o' ∧ o' = some w
/-- a step that may fail -/
abbrev Bd (u : Option β) (s : Env αs) (o : Option ω) (Φ : β → Env αs → Option ω → Prop) : Prop := ∃ k, o = u.bind k ∧ ∀ b, Φ b s (k b)
theorem SX.val {m : M αs β} {s : Env αs} {o : Option ω} {Φ : β → Env αs → Option ω → Prop} {a : β} (h : VX m s a) (k : Φ a s o) : SX m s o Φ := fun _ e => ⟨a, s, o, h, k, e⟩
theorem SX.nm {m : M αs β} {s : Env αs} {o : Option ω} {Φ : β → Env αs → Option ω → Prop} {a : β} (h : VX m s a) (k : ∃ k, o = (some a).bind k ∧ ∀ x, Φ x s (k x)) : SX m s o Φ := fun _ e => by
  obtain ⟨k, rfl, h1⟩ := k
  exact ⟨a, s, k a, h, h1 a, e⟩
theorem SX.mono {m : M αs β} {s : Env αs} {o : Option ω} {Φ Φ' : β → Env αs → Option ω → Prop} (h : SX m s o Φ) (k : ∀ b s' o', Φ b s' o' → Φ' b s' o') : SX m s o Φ' := fun w e => by
  obtain ⟨b, s', o', h1, h2, h3⟩ := h w e
  exact ⟨b, s', o', h1, k _ _ _ h2, h3⟩
theorem SX.bd {m : M αs β} {n : β → Env αs → Option (γ × Env αs)} {s : Env αs} {o : Option ω} {Φ : γ → Env αs → Option ω → Prop} (h : SX m s o fun b s1 o1 => SX (n b) s1 o1 Φ) : SX (fun s => (m s).bind fun p => n p.1 p.2) s o Φ := fun w e => by
  obtain ⟨b, s1, o1, h1, h2, h3⟩ := h w e
  obtain ⟨c, s2, o2, h4, h5, h6⟩ := h2 w h3
  exact ⟨c, s2, o2, by show (m s).bind _ = _; rw [h1]; exact h4, h5, h6⟩
theorem SX.op {u : Option β} {n : β → Env αs → Option (γ × Env αs)} {s : Env αs} {o : Option ω} {Φ : γ → Env αs → Option ω → Prop} (h : Bd u s o fun b s1 o1 => SX (n b) s1 o1 Φ) : SX (fun s => u.bind fun b => n b s) s o Φ := fun w e => by
  obtain ⟨k, rfl, h⟩ := h
  obtain ⟨b, e1, e2⟩ := bindE e
  obtain ⟨c, s2, o2, h4, h5, h6⟩ := h b w e2
  exact ⟨c, s2, o2, by rw [e1]; exact h4, h5, h6⟩
theorem SX.rt {b : β} {f : Env αs → Env αs} {s : Env αs} {o : Option ω} {Φ : β → Env αs → Option ω → Prop} (h : Φ b (f s) o) : SX (fun s => some (b, f s)) s o Φ := fun w e => ⟨b, f s, o, rfl, h, e⟩
theorem SX.if {c : Prop} [Decidable c] {m n : Env αs → Option (β × Env αs)} {s : Env αs} {o : Option ω} {Φ : β → Env αs → Option ω → Prop} (h : c → SX m s o Φ) (k : ¬ c → SX n s o Φ) : SX (fun s => if c then m s else n s) s o Φ := fun w e => by
  by_cases hc : c
  · simp only [if_pos hc]; exact h hc w e
  · simp only [if_neg hc]; exact k hc w e
variable {s : Env αs} {o : Option ω}
section
variable {Φ : β → Env αs → Option ω → Prop}
theorem SX.p1 {f : α → Option β} {m : M αs α} (h : SX m s o fun a s1 o1 => Bd (f a) s1 o1 Φ) : SX (m1 f m) s o Φ :=
  SX.bd (n := fun a s => (f a).bind fun b => some (b, s)) (h.mono fun a s1 o1 h1 => SX.op (by
    obtain ⟨k, e, h1⟩ := h1
    exact ⟨k, e, fun b => SX.rt (f := id) (h1 b)⟩))
theorem SX.t1 {f : α → Option β} {m : M αs α} (h : SX m s o fun a s1 o1 => ∃ b, f a = some b ∧ Φ b s1 o1) : SX (m1 f m) s o Φ :=
  SX.bd (n := fun a s => (f a).bind fun b => some (b, s)) (h.mono fun a s1 o1 ⟨b, e, h1⟩ w ew => ⟨b, s1, o1, by rw [e]; rfl, h1, ew⟩)
end
section
variable {Φ : γ → Env αs → Option ω → Prop}
theorem SX.p2 {f : α → β → Option γ} {m : M αs α} {n : M αs β} (h : SX m s o fun a s1 o1 => SX n s1 o1 fun b s2 o2 => Bd (f a b) s2 o2 Φ) : SX (m2 f m n) s o Φ :=
  SX.bd (n := fun a s => (n s).bind fun q => (f a q.1).bind fun c => some (c, q.2)) (h.mono fun a s1 o1 h1 => SX.bd (n := fun b s => (f a b).bind fun c => some (c, s)) (h1.mono fun b s2 o2 h2 => SX.op (by
    obtain ⟨k, e, h2⟩ := h2
    exact ⟨k, e, fun b => SX.rt (f := id) (h2 b)⟩)))
theorem SX.t2 {f : α → β → Option γ} {m : M αs α} {n : M αs β} (h : SX m s o fun a s1 o1 => SX n s1 o1 fun b s2 o2 => ∃ c, f a b = some c ∧ Φ c s2 o2) : SX (m2 f m n) s o Φ :=
  SX.bd (n := fun a s => (n s).bind fun q => (f a q.1).bind fun c => some (c, q.2)) (h.mono fun a s1 o1 h1 => SX.bd (n := fun b s => (f a b).bind fun c => some (c, s)) (h1.mono fun b s2 o2 ⟨c, e, h2⟩ w ew => ⟨c, s2, o2, by rw [e]; rfl, h2, ew⟩))
end
theorem SX.lst {m : M αs (List α)} {Φ : List α → Env αs → Option ω → Prop} (h : SX m s o fun xs s1 o1 => xs.length ≤ 1000000 ∧ Φ xs s1 o1) : SX (m1 lstO m) s o Φ := SX.t1 (h.mono fun xs _ _ ⟨e, k⟩ => ⟨xs, lstO_ok e, k⟩)
theorem SX.lstN (n : Nat) {m : M αs (List α)} {Φ : List α → Env αs → Option ω → Prop} (d : n ≤ 1000000) (h : SX m s o fun xs s1 o1 => xs.length = n ∧ Φ xs s1 o1) : SX (m1 lstO m) s o Φ := SX.lst (h.mono fun xs _ _ ⟨e, k⟩ => ⟨e ▸ d, k⟩)
/-- a value found without effects, joined -/
abbrev VO (m : M αs β) (s : Env αs) (o : Option β) : Prop := SX m s o fun b s' o' => s' = s ∧ o' = some b
theorem VO.run {m : M αs β} {s : Env αs} {o : Option β} {b : β} (h : VO m s o) (e : o = some b) : m s = some (b, s) := by
  obtain ⟨c, s', o', h1, ⟨rfl, rfl⟩, h3⟩ := h b e
  cases h3; exact h1
theorem SX.and {m n : M αs Bool} {Φ : Bool → Env αs → Option ω → Prop} (h : SX m s o fun a s1 o1 => ∃ u k, o1 = (if a = true then u else some false).bind k ∧ VO n s1 u ∧ ∀ b, Φ b s1 (k b)) : SX (mAnd m n) s o Φ :=
  SX.bd (n := fun a s => if a = true then n s else some (false, s)) (h.mono fun a s1 o1 ⟨u, k, eo, v, h1⟩ w ew => by
    subst eo
    obtain ⟨b, e1, e2⟩ := bindE ew
    refine ⟨b, s1, k b, ?_, h1 b, e2⟩
    cases a with
    | true => exact v.run e1
    | false => cases e1; rfl)
theorem SX.or {m n : M αs Bool} {Φ : Bool → Env αs → Option ω → Prop} (h : SX m s o fun a s1 o1 => ∃ u k, o1 = (if a = true then some true else u).bind k ∧ VO n s1 u ∧ ∀ b, Φ b s1 (k b)) : SX (mOr m n) s o Φ :=
  SX.bd (n := fun a s => if a = true then some (true, s) else n s) (h.mono fun a s1 o1 ⟨u, k, eo, v, h1⟩ w ew => by
    subst eo
    obtain ⟨b, e1, e2⟩ := bindE ew
    refine ⟨b, s1, k b, ?_, h1 b, e2⟩
    cases a with
    | true => cases e1; rfl
    | false => exact v.run e1)
theorem SX.andT {m n : M αs Bool} {Φ : Bool → Env αs → Option ω → Prop} (h : SX m s o fun a s1 o1 => a = true ∧ SX n s1 o1 Φ) : SX (mAnd m n) s o Φ :=
  SX.bd (n := fun a s => if a = true then n s else some (false, s)) (h.mono fun a s1 o1 ⟨e, k⟩ => by subst e; exact k)
theorem SX.orE {m n : M αs Bool} {Φ : Bool → Env αs → Option ω → Prop} (h : SX m s o fun a s1 o1 => ∃ u w, o1 = (if a = true then u else w) ∧ Φ true s1 u ∧ SX n s1 w Φ) : SX (mOr m n) s o Φ :=
  SX.bd (n := fun a s => if a = true then some (true, s) else n s) (h.mono fun a s1 o1 ⟨u, w, e, h1, h2⟩ => by
    cases a with
    | true => cases e; exact SX.rt (f := id) h1
    | false => cases e; exact h2)
theorem SX.ite {c : M αs Bool} {m n : M αs β} {Φ : β → Env αs → Option ω → Prop} (h : SX c s o fun a s1 o1 => ∃ u w k, o1 = (if a = true then u else w).bind k ∧ VO m s1 u ∧ VO n s1 w ∧ ∀ b, Φ b s1 (k b)) : SX (mIte c m n) s o Φ :=
  SX.bd (n := fun a s => if a = true then m s else n s) (h.mono fun a s1 o1 ⟨u, w, k, eo, v, v2, h1⟩ z ew => by
    subst eo
    obtain ⟨b, e1, e2⟩ := bindE ew
    refine ⟨b, s1, k b, ?_, h1 b, e2⟩
    cases a with
    | true => exact v.run e1
    | false => exact v2.run e1)
theorem SX.iteE {c : M αs Bool} {m n : M αs β} {Φ : β → Env αs → Option ω → Prop} (h : SX c s o fun a s1 o1 => ∃ u w, o1 = (if a = true then u else w) ∧ SX m s1 u Φ ∧ SX n s1 w Φ) : SX (mIte c m n) s o Φ :=
  SX.bd (n := fun a s => if a = true then m s else n s) (h.mono fun a s1 o1 ⟨u, w, e, h1, h2⟩ => by
    cases a with
    | true => cases e; exact h1
    | false => cases e; exact h2)
theorem SX.chn {f g : Int → Int → Option Bool} {m n l : M αs Int} {Φ : Bool → Env αs → Option ω → Prop} (h : SX m s o fun a s1 o1 => SX n s1 o1 fun b s2 o2 => ∃ c, f a b = some c ∧ ∃ u k, o2 = (if c = true then u else some false).bind k ∧ SX l s2 u (fun d s' o' => s' = s2 ∧ ∃ z, g b d = some z ∧ o' = some z) ∧ ∀ z, Φ z s2 (k z)) : SX (Sm.chn f g m n l) s o Φ :=
  SX.bd (n := fun a s => (n s).bind fun q => (f a q.1).bind fun c => if c = true then (l q.2).bind fun r => (g q.1 r.1).bind fun d => some (d, r.2) else some (false, q.2)) (h.mono fun a s1 o1 h1 =>
    SX.bd (n := fun b s => (f a b).bind fun c => if c = true then (l s).bind fun r => (g b r.1).bind fun d => some (d, r.2) else some (false, s)) (h1.mono fun b s2 o2 ⟨c, e, u, k, eo, v, h1⟩ w ew => by
      subst eo
      obtain ⟨x, e1, e2⟩ := bindE ew
      refine ⟨x, s2, k x, ?_, h1 x, e2⟩
      rw [e]
      cases c with
      | false => cases e1; rfl
      | true =>
        obtain ⟨d, s', o', h3, ⟨h4, z, h5, h6⟩, h7⟩ := v x e1
        subst h4
        show (l s').bind _ = _
        rw [h3]
        show (g b d).bind _ = _
        rw [h5]
        have : z = x := Option.some.inj (h6.symm.trans h7)
        rw [this]; rfl))
theorem SX.aNil {Φ : Env [] → Env αs → Option ω → Prop} (h : Φ () s o) : SX (aNil : M αs (Env [])) s o Φ := fun w e => ⟨(), s, o, rfl, h, e⟩
theorem SX.aV {r : List Type} {m : M αs α} {n : M αs (Env r)} {Φ : Env (α :: r) → Env αs → Option ω → Prop} (h : SX m s o fun a s1 o1 => SX n s1 o1 fun as s2 o2 => Φ ((some a, as) : Option α × Env r) s2 o2) : SX (aV m n) s o Φ :=
  SX.bd (γ := Env (α :: r)) (n := fun a s => (n s).bind fun q => some ((some a, q.1), q.2)) (h.mono fun a s1 o1 h1 => SX.bd (γ := Env (α :: r)) (n := fun q s => some ((some a, q), s)) (h1.mono fun as s2 o2 h2 => SX.rt (f := id) h2))
theorem SX.aM {r : List Type} {x : Var αs α} {n : M αs (Env r)} {Φ : Env (α :: r) → Env αs → Option ω → Prop} {a0 : α} (h0 : x.get s = some a0) (h : SX n s o fun as s2 o2 => ∃ a, x.get s2 = some a ∧ Φ ((some a, as) : Option α × Env r) s2 o2) : SX (aM x n) s o Φ := fun w e => by
  obtain ⟨as, s2, o2, h1, ⟨a, h2, h3⟩, h4⟩ := h w e
  refine ⟨((some a, as) : Option α × Env r), s2, o2, ?_, h3, h4⟩
  show ((x.get s).bind fun _ => (n s).bind fun q => (x.get q.2).bind fun a => some ((some a, q.1), q.2)) = _
  rw [h0]
  show ((n s).bind fun q => (x.get q.2).bind fun a => some ((some a, q.1), q.2)) = _
  rw [h1]
  show ((x.get s2).bind fun a => some ((some a, as), s2)) = _
  rw [h2]; rfl
/-- what a def's function tells -/
def Sim {ps : List Type} (o : Option ω) (f : Env ps → Option (ρ × Env ps)) (as : Env ps) (val : ω → ρ) (emb : ω → Env ps) : Prop := ∀ w, o = some w → ∃ s', f as = some (val w, s') ∧ Le (emb w) s'
def Full : {ps : List Type} → Ks αs ps → Env ps → Prop
  | _, .nil, _ => True
  | _, .v k, q => Full k q.2
  | _, .m _ k, q => q.1 ≠ none ∧ Full k q.2
theorem Full.nil {q : Env []} : Full (αs := αs) .nil q := trivial
theorem Full.v {r : List Type} {k : Ks αs r} {q : Env (α :: r)} (h : Full k q.2) : Full (.v k) q := h
theorem Full.m {r : List Type} {x : Var αs α} {k : Ks αs r} {q : Env (α :: r)} {a : α} (e : q.1 = some a) (h : Full k q.2) : Full (.m x k) q := ⟨by rw [e]; exact Option.some_ne_none _, h⟩
theorem Ks.put_eq : ∀ {ps : List Type} (κ : Ks αs ps) {q s : Env ps} (e : Env αs), Full κ q → Le q s → κ.put s e = κ.put q e
  | _, .nil, _, _, _, _, _ => rfl
  | _, .v k, _, _, e, f, l => Ks.put_eq k e f l.2
  | _, .m x k, q, s, e, f, l => by
    have h : q.1 = s.1 := by
      rcases l.1 with h | h
      · exact absurd h f.1
      · exact h
    show x.set s.1 (k.put s.2 e) = x.set q.1 (k.put q.2 e)
    rw [h, Ks.put_eq k e f.2 l.2]
theorem SX.call {ω' : Type} {ps : List Type} {κ : Ks αs ps} {f : Env ps → Option (ρ × Env ps)} {ma : M αs (Env ps)} {Φ : ρ → Env αs → Option ω → Prop}
    (h : SX ma s o fun as s1 o1 => ∃ (u : Option ω') (k : ω' → Option ω) (val : ω' → ρ) (emb : ω' → Env ps), o1 = u.bind k ∧ Sim u f as val emb ∧ (∀ w, Full κ (emb w)) ∧ ∀ w, Φ (val w) (κ.put (emb w) s1) (k w)) : SX (mCall κ f ma) s o Φ :=
  SX.bd (n := fun as s => (f as).bind fun q => some (q.1, κ.put q.2 s)) (h.mono fun as s1 o1 ⟨u, k, val, emb, e, sim, full, h1⟩ w ew => by
    subst e
    obtain ⟨v, e1, e2⟩ := bindE ew
    obtain ⟨s', e3, l⟩ := sim v e1
    refine ⟨val v, κ.put (emb v) s1, k v, ?_, h1 v, e2⟩
    rw [e3]
    show some (val v, κ.put s' s1) = _
    rw [κ.put_eq s1 (full v) l])
theorem SX.callT {ω' : Type} {f : Env [α] → Option (ρ × Env [α])} {ma : M αs α} {Φ : ρ → Env αs → Option ω → Prop}
    (h : SX ma s o fun a s1 o1 => ∃ (u : Option ω') (k : ω' → Option ω) (val : ω' → ρ) (emb : ω' → Env [α]), o1 = u.bind k ∧ Sim u f ((some a, ()) : Option α × Unit) val emb ∧ ∀ w, Φ (val w) s1 (k w)) : SX (mCallT f ma) s o Φ :=
  SX.bd (n := fun a s => (f ((some a, ()) : Option α × Unit)).bind fun q => some (q.1, s)) (h.mono fun as s1 o1 ⟨u, k, val, emb, e, sim, h1⟩ w ew => by
    subst e
    obtain ⟨v, e1, e2⟩ := bindE ew
    obtain ⟨s', e3, l⟩ := sim v e1
    exact ⟨val v, s1, k v, by rw [e3]; rfl, h1 v, e2⟩)
theorem SX.make {ω' : Type} {ps : List Type} {x0 : τ} {f : Env (τ :: ps) → Option (ρ × Env (τ :: ps))} {ma : M αs (Env ps)} {Φ : τ → Env αs → Option ω → Prop}
    (h : SX ma s o fun as s1 o1 => ∃ (u : Option ω') (k : ω' → Option ω) (val : ω' → ρ) (emb : ω' → Env (τ :: ps)) (t : ω' → τ), o1 = u.bind k ∧ Sim u f ((some x0, as) : Option τ × Env ps) val emb ∧ (∀ w, (show Option τ from (emb w).1) = some (t w)) ∧ ∀ w, Φ (t w) s1 (k w)) : SX (mMake x0 f ma) s o Φ :=
  SX.bd (n := fun as s => (f ((some x0, as) : Option τ × Env ps)).bind fun q => (show Option τ from q.2.1).bind fun t => some (t, s)) (h.mono fun as s1 o1 ⟨u, k, val, emb, t, e, sim, he, h1⟩ w ew => by
    subst e
    obtain ⟨v, e1, e2⟩ := bindE ew
    obtain ⟨s', e3, l⟩ := sim v e1
    refine ⟨t v, s1, k v, ?_, h1 v, e2⟩
    rw [e3]
    have hv := he v
    have : (show Option τ from s'.1) = some (t v) := by
      rcases l.1 with h | h
      · exact absurd (hv.symm.trans h) (by simp)
      · exact h.symm.trans hv
    show ((show Option τ from s'.1).bind fun t => some (t, s1)) = _
    rw [this]; rfl)
theorem SX.isin {ω' : Type} {neg : Bool} {f : Env [τ, α] → Option (Bool × Env [τ, α])} {ma : M αs α} {mo : M αs τ} {Φ : Bool → Env αs → Option ω → Prop}
    (h : SX ma s o fun a s1 o1 => SX mo s1 o1 fun t s2 o2 => ∃ (u : Option ω') (k : ω' → Option ω) (val : ω' → Bool) (emb : ω' → Env [τ, α]), o2 = u.bind k ∧ Sim u f ((some t, (some a, ())) : Option τ × (Option α × Unit)) val emb ∧ ∀ w, Φ (bif neg then !(val w) else val w) s2 (k w)) : SX (mIn neg f ma mo) s o Φ :=
  SX.bd (n := fun a s => (mo s).bind fun q => (f ((some q.1, (some a, ())) : Option τ × (Option α × Unit))).bind fun r => some (if neg then !r.1 else r.1, q.2)) (h.mono fun a s1 o1 h1 => SX.bd (n := fun b s => (f ((some b, (some a, ())) : Option τ × (Option α × Unit))).bind fun r => some (if neg then !r.1 else r.1, s)) (h1.mono fun t s2 o2 ⟨u, k, val, emb, e, sim, h2⟩ w ew => by
    subst e
    obtain ⟨v, e1, e2⟩ := bindE ew
    obtain ⟨s', e3, l⟩ := sim v e1
    exact ⟨_, s2, k v, by rw [e3]; cases neg <;> rfl, h2 v, e2⟩))
theorem SX.lenO {ω' : Type} {f : Env [τ] → Option (Int × Env [τ])} {mo : M αs τ} {Φ : Int → Env αs → Option ω → Prop}
    (h : SX mo s o fun t s2 o2 => ∃ (u : Option ω') (k : ω' → Option ω) (val : ω' → Int) (emb : ω' → Env [τ]), o2 = u.bind k ∧ Sim u f ((some t, ()) : Option τ × Unit) val emb ∧ ∀ w, Bd (len63 (val w)) s2 (k w) Φ) : SX (mLenO f mo) s o Φ :=
  SX.bd (n := fun b s => (f ((some b, ()) : Option τ × Unit)).bind fun r => (len63 r.1).bind fun n => some (n, s)) (h.mono fun t s2 o2 ⟨u, k, val, emb, e, sim, h2⟩ w ew => by
    subst e
    obtain ⟨v, e1, e2⟩ := bindE ew
    obtain ⟨s', e3, l⟩ := sim v e1
    obtain ⟨k2, e4, h3⟩ := h2 v
    rw [e4] at e2
    obtain ⟨n, e5, e6⟩ := bindE e2
    exact ⟨n, s2, k2 n, by rw [e3]; show (len63 (val v)).bind _ = _; rw [e5]; rfl, h3 n, e6⟩)
theorem SX.pop {x : Var αs (List α)} {Φ : α → Env αs → Option ω → Prop} {xs : List α} (h0 : x.get s = some xs) (h : ∃ k, o = (popO xs).bind k ∧ ∀ y, Φ y (x.set (some xs.dropLast) s) (k y)) : SX (mPop x) s o Φ := fun w e => by
  obtain ⟨k, rfl, h1⟩ := h
  obtain ⟨y, e1, e2⟩ := bindE e
  refine ⟨y, x.set (some xs.dropLast) s, k y, ?_, h1 y, e2⟩
  unfold mPop
  rw [h0]
  show (xs[xs.length - 1]?).bind _ = _
  have e1' : xs[xs.length - 1]? = some y := e1
  rw [e1']; rfl
/-- comprehensions -/
theorem Var.set_get' : ∀ {αs : List Type} {α : Type} (x : Var αs α) (s : Env αs), x.set (x.get s) s = s
  | _, _, .vz, _ => rfl
  | _, _, .vs x, s => by
    show (s.1, x.set (x.get s.2) s.2) = s
    rw [x.set_get' s.2]; rfl
theorem own1 {x : Var αs α} {a : Option α} : (Own.one x).rs s (x.set a s) = s := by
  show x.set (x.get s) (x.set a s) = s
  rw [Var.set_set, Var.set_get']
theorem own2 {x : Var αs α} {z : Var αs β} {e} {a : Option α} {b : Option β} : (Own.two x z e).rs s (z.set b (x.set a s)) = s := by
  show z.set (z.get s) (x.set (x.get s) (z.set b (x.set a s))) = s
  rw [Var.set_comm x z _ _ _ e, Var.set_set, Var.set_set, Var.set_get', Var.set_get']
theorem loopC_O {f : α → Env αs → Env αs} {rs : Env αs → Env αs → Env αs} {mt : M αs Bool} {me : M αs β} {p : α → Option Bool} {g : α → Option β} (hr : ∀ x, rs s (f x s) = s) (ht : ∀ x, VO mt (f x s) (p x)) (he : ∀ x, VO me (f x s) (g x)) : ∀ (xs : List α) (ys : List β), lcO p g xs = some ys → loopC f rs mt me xs s = some (ys, s)
  | [], _, e => by cases e; rfl
  | x :: xs, ys, e => by
    obtain ⟨b, e1, e2⟩ := bindE (show (p x).bind _ = _ from e)
    show (mt (f x s)).bind _ = _
    rw [(ht x).run e1]
    cases b with
    | false =>
      show loopC f rs mt me xs (rs s (f x s)) = _
      rw [hr]
      exact loopC_O hr ht he xs ys e2
    | true =>
      obtain ⟨y, e3, e4⟩ := bindE (show (g x).bind _ = _ from e2)
      obtain ⟨zs, e5, e6⟩ := bindE e4
      cases e6
      show (me (f x s)).bind _ = _
      rw [(he x).run e3]
      show (loopC f rs mt me xs (rs s (f x s))).bind _ = _
      rw [hr, loopC_O hr ht he xs zs e5]; rfl
theorem SX.lcO {mi : M αs (List α)} {f : α → Env αs → Env αs} {rs : Env αs → Env αs → Env αs} {mt : M αs Bool} {me : M αs β} {Φ : List β → Env αs → Option ω → Prop} (hr : ∀ x s, rs s (f x s) = s)
    (h : SX mi s o fun xs s1 o1 => ∃ p g k, o1 = (cap xs (Sm.lcO p g xs)).bind k ∧ (∀ x, VO mt (f x s1) (p x)) ∧ (∀ x, VO me (f x s1) (g x)) ∧ ∀ ys, Φ ys s1 (k ys)) : SX (mLc mi f rs mt me) s o Φ :=
  SX.bd (n := fun (xs : List α) s => if xs.length ≤ 1000000 then loopC f rs mt me xs s else none) (h.mono fun xs s1 o1 ⟨p, g, k, eo, ht, he, h1⟩ w ew => by
    subst eo
    obtain ⟨ys, e1, e2⟩ := bindE ew
    unfold cap at e1
    by_cases hl : xs.length ≤ 1000000
    · rw [if_pos hl] at e1
      exact ⟨ys, s1, k ys, by show (if xs.length ≤ 1000000 then loopC f rs mt me xs s1 else none) = _; rw [if_pos hl]; exact loopC_O (fun x => hr x s1) ht he xs ys e1, h1 ys, e2⟩
    · rw [if_neg hl] at e1; cases e1)
theorem loopC_S {f : α → Env αs → Env αs} {rs : Env αs → Env αs → Env αs} {mt : M αs Bool} {me : M αs β} {p : τ → α → Option Bool} {g : τ → α → Option (β × τ)} {emb : τ → Env αs} (hr : ∀ x t, rs (emb t) (f x (emb t)) = emb t) (ht : ∀ t x, VO mt (f x (emb t)) (p t x))
    (he : ∀ t x, SX me (f x (emb t)) (g t x) fun y s' o' => ∃ t', rs (emb t) s' = emb t' ∧ o' = some (y, t')) : ∀ (xs : List α) (t : τ) (ys : List β) (t' : τ), lcS p g xs t = some (ys, t') → loopC f rs mt me xs (emb t) = some (ys, emb t')
  | [], _, _, _, e => by cases e; rfl
  | x :: xs, t, ys, t', e => by
    obtain ⟨b, e1, e2⟩ := bindE (show (p t x).bind _ = _ from e)
    show (mt (f x (emb t))).bind _ = _
    rw [(ht t x).run e1]
    cases b with
    | false =>
      show loopC f rs mt me xs (rs (emb t) (f x (emb t))) = _
      rw [hr]
      exact loopC_S hr ht he xs t ys t' e2
    | true =>
      obtain ⟨⟨y, t1⟩, e3, e4⟩ := bindE (show (g t x).bind _ = _ from e2)
      obtain ⟨⟨zs, t2⟩, e5, e6⟩ := bindE e4
      cases e6
      obtain ⟨y', s', o', h1, ⟨t3, h2, h3⟩, h4⟩ := he t x _ e3
      rw [h3] at h4
      cases h4
      show (me (f x (emb t))).bind _ = _
      rw [h1]
      show (loopC f rs mt me xs (rs (emb t) s')).bind _ = _
      rw [h2, loopC_S hr ht he xs _ zs _ e5]; rfl
theorem SX.lcS {mi : M αs (List α)} {f : α → Env αs → Env αs} {rs : Env αs → Env αs → Env αs} {mt : M αs Bool} {me : M αs β} {Φ : List β → Env αs → Option ω → Prop} (emb : τ → Env αs) (hr : ∀ x s, rs s (f x s) = s)
    (h : SX mi s o fun xs s1 o1 => ∃ t0 p g k, o1 = (cap xs (Sm.lcS p g xs t0)).bind k ∧ s1 = emb t0 ∧ (∀ t x, VO mt (f x (emb t)) (p t x)) ∧ (∀ t x, SX me (f x (emb t)) (g t x) fun y s' o' => ∃ t', rs (emb t) s' = emb t' ∧ o' = some (y, t')) ∧ ∀ w, Φ w.1 (emb w.2) (k w)) : SX (mLc mi f rs mt me) s o Φ :=
  SX.bd (n := fun (xs : List α) s => if xs.length ≤ 1000000 then loopC f rs mt me xs s else none) (h.mono fun xs s1 o1 ⟨t0, p, g, k, eo, es, ht, he, h1⟩ w ew => by
    subst es eo
    obtain ⟨⟨ys, t'⟩, e1, e2⟩ := bindE ew
    unfold cap at e1
    by_cases hl : xs.length ≤ 1000000
    · rw [if_pos hl] at e1
      exact ⟨ys, emb t', k (ys, t'), by show (if xs.length ≤ 1000000 then loopC f rs mt me xs (emb t0) else none) = _; rw [if_pos hl]; exact loopC_S (fun x t => hr x _) ht he xs t0 ys t' e1, h1 (ys, t'), e2⟩
    · rw [if_neg hl] at e1; cases e1)
def SS (m : MS αs ρ) (s : Env αs) (o : Option ω) (Ψ : Ctl ρ → Env αs → Option ω → Prop) : Prop := ∀ w, o = some w → ∃ c s1 s' o', m s = some (c, s1) ∧ Le s' s1 ∧ Ψ c s' o' ∧ o' = some w
@[reducible] def Sq (n : MS αs ρ) (Ψ : Ctl ρ → Env αs → Option ω → Prop) : Ctl ρ → Env αs → Option ω → Prop
  | .nx, s, o => SS n s o Ψ
  | c, s, o => Ψ c s o
variable {Ψ : Ctl ρ → Env αs → Option ω → Prop}
theorem SS.of {m : MS αs ρ} (h : SX m s o Ψ) : SS m s o Ψ := fun w e => by
  obtain ⟨c, s', o', h1, h2, h3⟩ := h w e
  exact ⟨c, s', s', o', h1, Le.refl _, h2, h3⟩
theorem SS.seq {m n : MS αs ρ} [mn : Mo n] (h : SS m s o (Sq n Ψ)) : SS (sSeq m n) s o Ψ := fun w e => by
  obtain ⟨c, s1, s', o', h1, l, h2, h3⟩ := h w e
  unfold sSeq
  rw [h1]
  cases c with
  | nx =>
    obtain ⟨c2, s2, s2', o2, h4, l2, h5, h6⟩ := (show SS n s' o' Ψ from h2) w h3
    obtain ⟨s3, h7, l3⟩ := mn.mo l h4
    exact ⟨c2, s3, s2', o2, h7, l2.trans l3, h5, h6⟩
  | bk => exact ⟨.bk, s1, s', o', rfl, l, h2, h3⟩
  | ct => exact ⟨.ct, s1, s', o', rfl, l, h2, h3⟩
  | rt r => exact ⟨.rt r, s1, s', o', rfl, l, h2, h3⟩
theorem SS.seqX {m n : MS αs ρ} (h : SX m s o (Sq n Ψ)) : SS (sSeq m n) s o Ψ := fun w e => by
  obtain ⟨c, s1, o', h1, h2, h3⟩ := h w e
  unfold sSeq
  rw [h1]
  cases c with
  | nx => exact (show SS n s1 o' Ψ from h2) w h3
  | bk => exact ⟨.bk, s1, s1, o', rfl, Le.refl _, h2, h3⟩
  | ct => exact ⟨.ct, s1, s1, o', rfl, Le.refl _, h2, h3⟩
  | rt r => exact ⟨.rt r, s1, s1, o', rfl, Le.refl _, h2, h3⟩
@[reducible] def SqX (n : MS αs ρ) (Ψ : Ctl ρ → Env αs → Option ω → Prop) : Ctl ρ → Env αs → Option ω → Prop
  | .nx, s, o => SX n s o Ψ
  | c, s, o => Ψ c s o
theorem SX.seq {m n : MS αs ρ} (h : SX m s o (SqX n Ψ)) : SX (sSeq m n) s o Ψ := fun w e => by
  obtain ⟨c, s1, o', h1, h2, h3⟩ := h w e
  unfold sSeq
  rw [h1]
  cases c with
  | nx => exact (show SX n s1 o' Ψ from h2) w h3
  | bk => exact ⟨.bk, s1, o', rfl, h2, h3⟩
  | ct => exact ⟨.ct, s1, o', rfl, h2, h3⟩
  | rt r => exact ⟨.rt r, s1, o', rfl, h2, h3⟩
theorem SX.skip (h : Ψ .nx s o) : SX (sSkip : MS αs ρ) s o Ψ := fun w e => ⟨.nx, s, o, rfl, h, e⟩
theorem SX.bk (h : Ψ .bk s o) : SX (sBk : MS αs ρ) s o Ψ := fun w e => ⟨.bk, s, o, rfl, h, e⟩
theorem SX.ct (h : Ψ .ct s o) : SX (sCt : MS αs ρ) s o Ψ := fun w e => ⟨.ct, s, o, rfl, h, e⟩
theorem SX.fail : SX (sFail : MS αs ρ) s (none : Option ω) Ψ := fun w e => by cases e
theorem SX.no {m : MS αs ρ} : SX m s (none : Option ω) Ψ := fun w e => by cases e
theorem SX.asg {x : Var αs α} {m : M αs α} (h : SX m s o fun a s1 o1 => Ψ .nx (x.set (some a) s1) o1) : SX (sAsg x m) s o Ψ :=
  SX.bd (n := fun a s => some (Ctl.nx, x.set (some a) s)) (h.mono fun a s1 o1 h1 => SX.rt h1)
theorem SX.sret {m : M αs ρ} (h : SX m s o fun a s1 o1 => Ψ (.rt a) s1 o1) : SX (sRet m) s o Ψ :=
  SX.bd (n := fun a s => some (Ctl.rt a, s)) (h.mono fun a s1 o1 h1 => SX.rt (f := id) h1)
theorem SX.drop {m : M αs α} (h : SX m s o fun _ s1 o1 => Ψ .nx s1 o1) : SX (sDrop m) s o Ψ :=
  SX.bd (n := fun _ s => some (Ctl.nx, s)) (h.mono fun a s1 o1 h1 => SX.rt (f := id) h1)
theorem SS.ite {c : M αs Bool} {m n : MS αs ρ} (h : SX c s o fun b s1 o1 => ∃ u w, o1 = (if b = true then u else w) ∧ SS m s1 u Ψ ∧ SS n s1 w Ψ) : SS (sIf c m n) s o Ψ := fun w e => by
  obtain ⟨b, s1, o1, h1, ⟨u, v, rfl, h2, h3⟩, h4⟩ := h w e
  unfold sIf
  rw [h1]
  cases b with
  | true => exact h2 w h4
  | false => exact h3 w h4
theorem SX.sif {c : M αs Bool} {m n : MS αs ρ} (h : SX c s o fun b s1 o1 => ∃ u w, o1 = (if b = true then u else w) ∧ SX m s1 u Ψ ∧ SX n s1 w Ψ) : SX (sIf c m n) s o Ψ := fun w e => by
  obtain ⟨b, s1, o1, h1, ⟨u, v, rfl, h2, h3⟩, h4⟩ := h w e
  unfold sIf
  rw [h1]
  cases b with
  | true => exact h2 w h4
  | false => exact h3 w h4
theorem SX.sifN {c : M αs Bool} {m n : MS αs ρ} (h : SX c s o fun b s1 o1 => b = false ∧ SX n s1 o1 Ψ) : SX (sIf c m n) s o Ψ := fun w e => by
  obtain ⟨b, s1, o1, h1, ⟨rfl, h2⟩, h4⟩ := h w e
  unfold sIf
  rw [h1]
  exact h2 w h4
theorem SX.setI {x : Var αs (List α)} {mi : M αs Int} {me : M αs α} (h : SX me s o fun v s1 o1 => (∃ z, x.get s1 = some z) ∧ SX mi s1 o1 fun i s2 o2 => ∃ xs, x.get s2 = some xs ∧ Bd (setAt xs i v) s2 o2 fun ys s3 o3 => Ψ .nx (x.set (some ys) s3) o3) : SX (sSetI x mi me) s o Ψ :=
  SX.bd (n := fun v s => (x.get s).bind fun _ => (mi s).bind fun q => (x.get q.2).bind fun xs => (setAt xs q.1 v).bind fun ys => some ((Ctl.nx : Ctl ρ), x.set (some ys) q.2)) (h.mono fun v s1 o1 ⟨⟨z, hz⟩, h1⟩ w ew => by
    obtain ⟨i, s2, o2, h2, ⟨xs, h3, k, rfl, h4⟩, h5⟩ := h1 w ew
    obtain ⟨ys, e1, e2⟩ := bindE h5
    refine ⟨Ctl.nx, x.set (some ys) s2, k ys, ?_, h4 ys, e2⟩
    show (x.get s1).bind _ = _
    rw [hz]
    show (mi s1).bind _ = _
    rw [h2]
    show (x.get s2).bind _ = _
    rw [h3]
    show (setAt xs i v).bind _ = _
    rw [e1]; rfl)
theorem SX.app {x : Var αs (List α)} {me : M αs α} {z : List α} (h0 : x.get s = some z) (h : SX me s o fun v s1 o1 => ∃ xs, x.get s1 = some xs ∧ Bd (appO xs v) s1 o1 fun ys s2 o2 => Ψ .nx (x.set (some ys) s2) o2) : SX (sApp x me) s o Ψ := fun w e => by
  obtain ⟨v, s1, o1, h1, ⟨xs, h2, k, rfl, h3⟩, h4⟩ := h w e
  obtain ⟨ys, e1, e2⟩ := bindE h4
  refine ⟨.nx, x.set (some ys) s1, k ys, ?_, h3 ys, e2⟩
  unfold sApp
  rw [h0]
  show (me s).bind _ = _
  rw [h1]
  show (x.get s1).bind _ = _
  rw [h2]
  show (if xs.length < 1000000 then some (Ctl.nx, x.set (some (xs ++ [v])) s1) else none) = _
  unfold appO at e1
  obtain ⟨h5, rfl⟩ := ite_some e1
  rw [if_pos h5]
theorem SX.ext {x : Var αs (List α)} {me : M αs (List α)} {z : List α} (h0 : x.get s = some z) (h : SX me s o fun v s1 o1 => ∃ xs, x.get s1 = some xs ∧ Bd (extO xs v) s1 o1 fun ys s2 o2 => Ψ .nx (x.set (some ys) s2) o2) : SX (sExt x me) s o Ψ := fun w e => by
  obtain ⟨v, s1, o1, h1, ⟨xs, h2, k, rfl, h3⟩, h4⟩ := h w e
  obtain ⟨ys, e1, e2⟩ := bindE h4
  refine ⟨.nx, x.set (some ys) s1, k ys, ?_, h3 ys, e2⟩
  unfold sExt
  rw [h0]
  show (me s).bind _ = _
  rw [h1]
  show (x.get s1).bind _ = _
  rw [h2]
  show (if xs.length + v.length ≤ 1000000 then some (Ctl.nx, x.set (some (xs ++ v)) s1) else none) = _
  unfold extO at e1
  obtain ⟨h5, rfl⟩ := ite_some e1
  rw [if_pos h5]
theorem SX.rev {x : Var αs (List α)} {xs : List α} (h0 : x.get s = some xs) (h : Ψ .nx (x.set (some xs.reverse) s) o) : SX (sRev x) s o Ψ := fun w e => ⟨.nx, _, o, by unfold sRev; rw [h0]; rfl, h, e⟩
theorem SX.asgG {f : α → Env αs → Env αs} {m : M αs α} (h : SX m s o fun a s1 o1 => Ψ .nx (f a s1) o1) : SX (sAsgG f m) s o Ψ :=
  SX.bd (n := fun a s => some (Ctl.nx, f a s)) (h.mono fun a s1 o1 h1 => SX.rt h1)
theorem SX.par {x : Var αs α} {y : Var αs β} {m : M αs α} {l : M αs β} (h : SX m s o fun a s1 o1 => SX l s1 o1 fun b s2 o2 => Ψ .nx (y.set (some b) (x.set (some a) s2)) o2) : SX (sPar x y m l) s o Ψ :=
  SX.bd (n := fun a s => (l s).bind fun q => some (Ctl.nx, y.set (some q.1) (x.set (some a) q.2))) (h.mono fun a s1 o1 h1 => SX.bd (n := fun b s => some (Ctl.nx, y.set (some b) (x.set (some a) s))) (h1.mono fun b s2 o2 h2 => SX.rt (f := fun s => y.set (some b) (x.set (some a) s)) h2))
theorem SX.t0 {x : Var αs (Option TreeD)} {i j l : Int} (h0 : x.get s = some none) (h : Ψ .nx (x.set (some (some ⟨[i], [j], [l]⟩)) s) o) : SX (sT0 x i j l) s o Ψ := fun w e => ⟨.nx, _, o, by unfold sT0; rw [h0]; rfl, h, e⟩
noncomputable def tAdd (t : TreeD) (i j : Int) : Option TreeD := (idx t.hs i).bind fun h => if t.ps.length < 1000000 ∧ t.ls.length < 1000000 ∧ t.hs.length < 1000000 then some ⟨t.ps ++ [i], t.ls ++ [j], t.hs ++ [h + j]⟩ else none
theorem SX.ta {x : Var αs (Option TreeD)} {y z : Var αs Int} {t : TreeD} {i j : Int} (h0 : x.get s = some (some t)) (hy : y.get s = some i) (hz : z.get s = some j) (h : Bd (tAdd t i j) s o fun t' s1 o1 => Ψ .nx (x.set (some (some t')) s1) o1) : SX (sTA x y z) s o Ψ := fun w e => by
  obtain ⟨k, rfl, h1⟩ := h
  obtain ⟨t', e1, e2⟩ := bindE e
  refine ⟨.nx, _, k t', ?_, h1 t', e2⟩
  unfold sTA
  rw [h0]
  show (y.get s).bind _ = _
  rw [hy]
  show (z.get s).bind _ = _
  rw [hz]
  show (idx t.hs i).bind _ = _
  obtain ⟨g, e3, e4⟩ := bindE e1
  rw [e3]
  obtain ⟨h5, rfl⟩ := ite_some e4
  show (if _ then _ else none) = _
  rw [if_pos h5]
/-- branches that meet -/
theorem SS.join {m n : MS αs ρ} [mn : Mo n] (emb : τ → Env αs) {u : Option τ} {k : τ → Option ω} (h : SS m s u fun c s' o' => ∃ t, o' = some t ∧ c = .nx ∧ Le (emb t) s') (h2 : ∀ t, SS n (emb t) (k t) Ψ) : SS (sSeq m n) s (u.bind k) Ψ := fun w e => by
  obtain ⟨t, e1, e2⟩ := bindE e
  obtain ⟨c, s1, s', o', h1, l, ⟨t', h3, rfl, l1⟩, h4⟩ := h t e1
  rw [h3] at h4
  cases h4
  obtain ⟨c2, s2, s2', o2, h5, l2, h6, h7⟩ := h2 t w e2
  obtain ⟨s3, h8, l3⟩ := mn.mo (l1.trans l) h5
  exact ⟨c2, s3, s2', o2, by unfold sSeq; rw [h1]; exact h8, l2.trans l3, h6, h7⟩
/-- loops -/
def WM (emb : τ → Env αs) : Ctl ρ → Env αs → Option τ → Prop := fun c s' o' => ∃ t, o' = some t ∧ (c = .nx ∨ c = .ct) ∧ Le (emb t) s'
theorem WM.mk {emb : τ → Env αs} {c : Ctl ρ} {t : τ} (h : c = .nx ∨ c = .ct) (l : Le (emb t) s) : WM emb c s (some t) := ⟨t, rfl, h, l⟩
def WL {ω' : Type} (emb : τ → Env αs) (val : ω' → ρ) (embR : ω' → Env αs) : Ctl ρ → Env αs → Option (Lp τ ω') → Prop := fun c s' o' => ∃ l, o' = some l ∧ match l with
  | .nx t => (c = .nx ∨ c = .ct) ∧ Le (emb t) s'
  | .bk t => c = .bk ∧ Le (emb t) s'
  | .rt r => c = .rt (val r) ∧ Le (embR r) s'
theorem WL.nxI {ω' : Type} {emb : τ → Env αs} {val : ω' → ρ} {embR : ω' → Env αs} {c : Ctl ρ} {t : τ} (h : c = .nx ∨ c = .ct) (l : Le (emb t) s) : WL emb val embR c s (some (.nx t)) := ⟨_, rfl, h, l⟩
theorem WL.rtI {ω' : Type} {emb : τ → Env αs} {val : ω' → ρ} {embR : ω' → Env αs} {r : ω'} (l : Le (embR r) s) : WL emb val embR (.rt (val r)) s (some (.rt r)) := ⟨_, rfl, rfl, l⟩
def Lp.elim {ω' : Type} (k : τ → Option ω) (j : ω' → Option ω) : Lp τ ω' → Option ω
  | .nx t => k t
  | .bk t => k t
  | .rt r => j r
theorem loopF_M {f : α → Env αs → Env αs} {m : MS αs ρ} [mf : MoF f] [mm : Mo m] {B : τ → α → Option τ} {emb : τ → Env αs} (hb : ∀ t x, SS m (f x (emb t)) (B t x) (WM emb)) : ∀ (xs : List α) (t t' : τ) (s : Env αs), Le (emb t) s → forM B xs t = some t' → ∃ s', loopF f m xs s = some (.nx, s') ∧ Le (emb t') s'
  | [], t, t', s, l, e => by cases e; exact ⟨s, rfl, l⟩
  | x :: xs, t, t', s, l, e => by
    obtain ⟨t1, e1, e2⟩ := bindE (show (B t x).bind _ = _ from e)
    obtain ⟨c, s1, s', o', h1, l1, ⟨t2, h2, h3, l2⟩, h4⟩ := hb t x t1 e1
    rw [h2] at h4
    cases h4
    obtain ⟨s3, h5, l3⟩ := mm.mo (mf.mo x l) h1
    obtain ⟨s4, h6, l4⟩ := loopF_M hb xs _ t' s3 ((l2.trans l1).trans l3) e2
    refine ⟨s4, ?_, l4⟩
    show (m (f x s)).bind _ = _
    rw [h5]
    rcases h3 with rfl | rfl <;> exact h6
theorem SS.forM {mi : M αs (List α)} {f : α → Env αs → Env αs} {m : MS αs ρ} [mf : MoF f] [mm : Mo m] (emb : τ → Env αs) (h : SX mi s o fun xs s1 o1 => ∃ B t0 k, o1 = (Sm.forM B xs t0).bind k ∧ Le (emb t0) s1 ∧ (∀ t x, SS m (f x (emb t)) (B t x) (WM emb)) ∧ ∀ t, Ψ .nx (emb t) (k t)) : SS (sFor mi f m) s o Ψ := fun w e => by
  obtain ⟨xs, s1, o1, h1, ⟨B, t0, k, rfl, l, hb, h2⟩, h3⟩ := h w e
  obtain ⟨t, e1, e2⟩ := bindE h3
  obtain ⟨s', h4, l4⟩ := loopF_M hb xs t0 t s1 l e1
  exact ⟨.nx, s', emb t, k t, by unfold sFor; rw [h1]; exact h4, l4, h2 t, e2⟩
theorem loopF_L {ω' : Type} {f : α → Env αs → Env αs} {m : MS αs ρ} [mf : MoF f] [mm : Mo m] {B : τ → α → Option (Lp τ ω')} {emb : τ → Env αs} {val : ω' → ρ} {embR : ω' → Env αs} (hb : ∀ t x, SS m (f x (emb t)) (B t x) (WL emb val embR)) :
    ∀ (xs : List α) (t : τ) (s : Env αs) (r : Lp τ ω'), Le (emb t) s → forL B xs t = some r → ∃ c s', loopF f m xs s = some (c, s') ∧ match r with | .nx t' => c = .nx ∧ Le (emb t') s' | .bk _ => False | .rt r => c = .rt (val r) ∧ Le (embR r) s'
  | [], t, s, r, l, e => by cases e; exact ⟨.nx, s, rfl, rfl, l⟩
  | x :: xs, t, s, r, l, e => by
    obtain ⟨p, e1, e2⟩ := bindE (show (B t x).bind _ = _ from e)
    obtain ⟨c, s1, s', o', h1, l1, ⟨p2, h2, h3⟩, h4⟩ := hb t x p e1
    rw [h2] at h4
    cases h4
    obtain ⟨s3, h5, l3⟩ := mm.mo (mf.mo x l) h1
    have e0 : loopF f m (x :: xs) s = (m (f x s)).bind fun p => match p.1 with
      | .nx => loopF f m xs p.2
      | .ct => loopF f m xs p.2
      | .bk => some (.nx, p.2)
      | .rt r => some (.rt r, p.2) := rfl
    rw [e0, h5]
    cases p with
    | nx t1 =>
      obtain ⟨c4, s4, h6, h7⟩ := loopF_L hb xs t1 s3 r ((h3.2.trans l1).trans l3) e2
      refine ⟨c4, s4, ?_, h7⟩
      rcases h3.1 with rfl | rfl <;> exact h6
    | bk t1 =>
      cases e2
      obtain ⟨rfl, l4⟩ := h3
      exact ⟨.nx, s3, rfl, rfl, (l4.trans l1).trans l3⟩
    | rt r1 =>
      cases e2
      obtain ⟨rfl, l4⟩ := h3
      exact ⟨_, s3, rfl, rfl, (l4.trans l1).trans l3⟩
theorem SS.forL {ω' : Type} {mi : M αs (List α)} {f : α → Env αs → Env αs} {m : MS αs ρ} [mf : MoF f] [mm : Mo m] (emb : τ → Env αs) (val : ω' → ρ) (embR : ω' → Env αs)
    (h : SX mi s o fun xs s1 o1 => ∃ (B : τ → α → Option (Lp τ ω')) (t0 : τ) (k : τ → Option ω) (j : ω' → Option ω), o1 = (Sm.forL B xs t0).bind (Lp.elim k j) ∧ Le (emb t0) s1 ∧ (∀ t x, SS m (f x (emb t)) (B t x) (WL emb val embR)) ∧ (∀ t, Ψ .nx (emb t) (k t)) ∧ ∀ r, Ψ (.rt (val r)) (embR r) (j r)) : SS (sFor mi f m) s o Ψ := fun w e => by
  obtain ⟨xs, s1, o1, h1, ⟨B, t0, k, j, rfl, l, hb, h2, h3⟩, h4⟩ := h w e
  obtain ⟨r, e1, e2⟩ := bindE h4
  obtain ⟨c, s', h5, h6⟩ := loopF_L hb xs t0 s1 r l e1
  have h7 : sFor mi f m s = some (c, s') := by unfold sFor; rw [h1]; exact h5
  cases r with
  | nx t => obtain ⟨rfl, l4⟩ := h6; exact ⟨.nx, s', emb t, k t, h7, l4, h2 t, e2⟩
  | bk t => exact h6.elim
  | rt r => obtain ⟨rfl, l4⟩ := h6; exact ⟨_, s', embR r, j r, h7, l4, h3 r, e2⟩
theorem whN_more {c : τ → Option Bool} {B : τ → Option (Lp τ ω)} : ∀ (n : Nat) (t : τ) (r), whN c B n t = some r → whN c B (n + 1) t = some r
  | 0, _, _, h => by cases h
  | n + 1, t, r, h => by
    rw [whN] at h ⊢
    obtain ⟨p, h1, h2⟩ := bindE h
    rw [h1]
    show (if p = true then _ else _) = _
    by_cases hp : p = true
    · rw [if_pos hp] at h2 ⊢
      obtain ⟨q, h3, h4⟩ := bindE h2
      rw [h3]
      cases q with
      | nx t => exact whN_more n t r h4
      | bk t => exact h4
      | rt _ => exact h4
    · rw [if_neg hp] at h2 ⊢
      exact h2
theorem whN_le {c : τ → Option Bool} {B : τ → Option (Lp τ ω)} {n k : Nat} {t : τ} {r} (h : whN c B n t = some r) (hk : n ≤ k) : whN c B k t = some r := by
  induction k with
  | zero => cases Nat.le_zero.mp hk; exact h
  | succ k ih =>
    by_cases e : n = k + 1
    · subst e; exact h
    · exact whN_more k t r (ih (by omega))
theorem whL_of {c : τ → Option Bool} {B : τ → Option (Lp τ ω)} {n : Nat} {t : τ} {r} (h : whN c B n t = some r) : whL c B t = some r := by
  have hx : ∃ n r, whN c B n t = some r := ⟨n, r, h⟩
  unfold whL
  rw [dif_pos hx]
  have h2 := Classical.choose_spec (Classical.choose_spec hx)
  have h3 := whN_le h2 (Nat.le_max_left _ n)
  have h4 := whN_le h (Nat.le_max_right (Classical.choose hx) n)
  rw [h3] at h4
  exact h4
theorem whL_to {c : τ → Option Bool} {B : τ → Option (Lp τ ω)} {t : τ} {r} (h : whL c B t = some r) : ∃ n, whN c B n t = some r := by
  unfold whL at h
  by_cases hx : ∃ n r, whN c B n t = some r
  · rw [dif_pos hx] at h
    cases h
    exact ⟨_, Classical.choose_spec (Classical.choose_spec hx)⟩
  · rw [dif_neg hx] at h; cases h
theorem whL_eq {c : τ → Option Bool} {B : τ → Option (Lp τ ω)} {t : τ} : whL c B t = (c t).bind fun b => if b = true then (B t).bind fun p => match p with | .nx t => whL c B t | .bk t => some (.nx t) | .rt r => some (.rt r) else some (.nx t) := by
  refine Option.ext fun r => ⟨fun h => ?_, fun h => ?_⟩
  · obtain ⟨n, h⟩ := whL_to h
    cases n with
    | zero => cases h
    | succ n =>
      rw [whN] at h
      obtain ⟨p, h1, h2⟩ := bindE h
      rw [h1]
      show (if p = true then _ else _) = _
      by_cases hp : p = true
      · rw [if_pos hp] at h2 ⊢
        obtain ⟨q, h3, h4⟩ := bindE h2
        rw [h3]
        cases q with
        | nx t => exact whL_of h4
        | bk t => exact h4
        | rt _ => exact h4
      · rw [if_neg hp] at h2 ⊢; exact h2
  · obtain ⟨p, h1, h2⟩ := bindE h
    have key : ∃ n, whN c B n t = some r := by
      by_cases hp : p = true
      · rw [if_pos hp] at h2
        obtain ⟨q, h3, h4⟩ := bindE h2
        cases q with
        | nx t' =>
          obtain ⟨n, h5⟩ := whL_to h4
          refine ⟨n + 1, ?_⟩
          rw [whN, h1]
          show (if p = true then _ else _) = _
          rw [if_pos hp, h3]; exact h5
        | bk t' =>
          refine ⟨1, ?_⟩
          rw [whN, h1]
          show (if p = true then _ else _) = _
          rw [if_pos hp, h3]; exact h4
        | rt _ =>
          refine ⟨1, ?_⟩
          rw [whN, h1]
          show (if p = true then _ else _) = _
          rw [if_pos hp, h3]; exact h4
      · rw [if_neg hp] at h2
        refine ⟨1, ?_⟩
        rw [whN, h1]
        show (if p = true then _ else _) = _
        rw [if_neg hp]; exact h2
    obtain ⟨n, h⟩ := key
    exact whL_of h
theorem loopW_L {ω' : Type} {mc : M αs Bool} {m : MS αs ρ} [mm : Mo m] [mcc : Mo mc] {c : τ → Option Bool} {B : τ → Option (Lp τ ω')} {emb : τ → Env αs} {val : ω' → ρ} {embR : ω' → Env αs} (hc : ∀ t, VO mc (emb t) (c t)) (hb : ∀ t, SS m (emb t) (B t) (WL emb val embR)) :
    ∀ (n : Nat) (t : τ) (s : Env αs) (r : Lp τ ω'), Le (emb t) s → whN c B n t = some r → ∃ c s', loopW mc m n s = some (c, s') ∧ match r with | .nx t' => c = .nx ∧ Le (emb t') s' | .bk _ => False | .rt r => c = .rt (val r) ∧ Le (embR r) s'
  | 0, _, _, _, _, e => by cases e
  | n + 1, t, s, r, l, e => by
    obtain ⟨b, e1, e2⟩ := bindE (show (c t).bind _ = _ from e)
    obtain ⟨s1, h1, l1⟩ := mcc.mo l ((hc t).run e1)
    have e0 : loopW mc m (n + 1) s = (mc s).bind fun p => if p.1 = true then (m p.2).bind fun q => match q.1 with
      | .nx => loopW mc m n q.2
      | .ct => loopW mc m n q.2
      | .bk => some (.nx, q.2)
      | .rt r => some (.rt r, q.2) else some (.nx, p.2) := rfl
    rw [e0, h1]
    cases b with
    | false => cases e2; exact ⟨.nx, s1, rfl, rfl, l1⟩
    | true =>
      obtain ⟨p, e3, e4⟩ := bindE (show (B t).bind _ = _ from e2)
      obtain ⟨c2, s2, s', o', h2, l2, ⟨p2, h3, h4⟩, h5⟩ := hb t p e3
      rw [h3] at h5
      cases h5
      obtain ⟨s3, h6, l3⟩ := mm.mo l1 h2
      show ∃ c s', ((m s1).bind fun q => match q.1 with
        | .nx => loopW mc m n q.2
        | .ct => loopW mc m n q.2
        | .bk => some (Ctl.nx, q.2)
        | .rt r => some (Ctl.rt r, q.2)) = some (c, s') ∧ _
      rw [h6]
      cases p with
      | nx t1 =>
        obtain ⟨c4, s4, h7, h8⟩ := loopW_L hc hb n t1 s3 r ((h4.2.trans l2).trans l3) e4
        refine ⟨c4, s4, ?_, h8⟩
        rcases h4.1 with rfl | rfl <;> exact h7
      | bk t1 =>
        cases e4
        obtain ⟨rfl, l4⟩ := h4
        exact ⟨.nx, s3, rfl, rfl, (l4.trans l2).trans l3⟩
      | rt r1 =>
        cases e4
        obtain ⟨rfl, l4⟩ := h4
        exact ⟨_, s3, rfl, rfl, (l4.trans l2).trans l3⟩
theorem SS.whL {ω' : Type} {mc : M αs Bool} {m : MS αs ρ} [mm : Mo m] [mcc : Mo mc] (emb : τ → Env αs) (val : ω' → ρ) (embR : ω' → Env αs) {c : τ → Option Bool} {B : τ → Option (Lp τ ω')} {t0 : τ} {k : τ → Option ω} {j : ω' → Option ω} (l : Le (emb t0) s) (hc : ∀ t, VO mc (emb t) (c t)) (hb : ∀ t, SS m (emb t) (B t) (WL emb val embR))
    (h2 : ∀ t, Ψ .nx (emb t) (k t)) (h3 : ∀ r, Ψ (.rt (val r)) (embR r) (j r)) : SS (sWhile mc m) s ((Sm.whL c B t0).bind (Lp.elim k j)) Ψ := fun w e => by
  obtain ⟨r, e1, e2⟩ := bindE e
  obtain ⟨n, e3⟩ := whL_to e1
  obtain ⟨c, s', h5, h6⟩ := loopW_L hc hb n t0 s r l e3
  have h7 : sWhile mc m s = some (c, s') := sWhile_of h5
  cases r with
  | nx t => obtain ⟨rfl, l4⟩ := h6; exact ⟨.nx, s', emb t, k t, h7, l4, h2 t, e2⟩
  | bk t => exact h6.elim
  | rt r => obtain ⟨rfl, l4⟩ := h6; exact ⟨_, s', embR r, j r, h7, l4, h3 r, e2⟩
end
def Wf {ps ls : List Type} {ρ ω : Type} (val : ω → ρ) (emb : ω → Env ps) : Ctl ρ → Env (ps ++ ls) → Option ω → Prop := fun c s' o' => ∃ w, o' = some w ∧ c = .rt (val w) ∧ Le (emb w) (prj ls ps s')
theorem Wf.mk {ps ls : List Type} {ρ ω : Type} {val : ω → ρ} {emb : ω → Env ps} {s : Env (ps ++ ls)} {w : ω} (l : Le (emb w) (prj ls ps s)) : Wf val emb (.rt (val w)) s (some w) := ⟨w, rfl, rfl, l⟩
theorem Wf.rt {ps ls : List Type} {ρ ω : Type} {val : ω → ρ} {emb : ω → Env ps} (w : ω) : Wf (ls := ls) val emb (.rt (val w)) (ext ls ps (emb w)) (some w) := ⟨w, rfl, rfl, by rw [prj_ext]; exact Le.refl _⟩
theorem Sim.body {ps ls : List Type} {ρ ω : Type} {m : MS (ps ++ ls) ρ} {as : Env ps} {o : Option ω} {val : ω → ρ} {emb : ω → Env ps} (h : SS m (ext ls ps as) o (Wf val emb)) : Sim o (bodyF m) as val emb := fun w e => by
  obtain ⟨c, s1, s', o', h1, l, ⟨w', h2, rfl, h3⟩, h4⟩ := h w e
  rw [h2] at h4
  cases h4
  exact ⟨prj ls ps s1, by unfold bodyF; rw [h1]; rfl, h3.trans (Le.prj l)⟩
def WN {ps ls : List Type} {ω : Type} (emb : ω → Env ps) : Ctl Unit → Env (ps ++ ls) → Option ω → Prop := fun c s' o' => ∃ w, o' = some w ∧ (c = .rt () ∨ c = .nx) ∧ Le (emb w) (prj ls ps s')
theorem WN.mk {ps ls : List Type} {ω : Type} {emb : ω → Env ps} {c : Ctl Unit} {s : Env (ps ++ ls)} {w : ω} (h : c = .rt () ∨ c = .nx) (l : Le (emb w) (prj ls ps s)) : WN emb c s (some w) := ⟨w, rfl, h, l⟩
theorem WN.rt {ps ls : List Type} {ω : Type} {emb : ω → Env ps} (w : ω) : WN (ls := ls) emb (.rt ()) (ext ls ps (emb w)) (some w) := ⟨w, rfl, .inl rfl, by rw [prj_ext]; exact Le.refl _⟩
theorem Sim.bodyN {ps ls : List Type} {ω : Type} {m : MS (ps ++ ls) Unit} {as : Env ps} {o : Option ω} {emb : ω → Env ps} (h : SS m (ext ls ps as) o (WN emb)) : Sim o (Sm.bodyN m) as (fun _ => ()) emb := fun w e => by
  obtain ⟨c, s1, s', o', h1, l, ⟨w', h2, hc, h3⟩, h4⟩ := h w e
  rw [h2] at h4
  cases h4
  refine ⟨prj ls ps s1, ?_, h3.trans (Le.prj l)⟩
  unfold Sm.bodyN
  rw [h1]
  rcases hc with rfl | rfl <;> rfl
end Sm
namespace Sm
open PySem PySem.Spec L2
section
variable {α β γ δ ρ τ ω : Type}
theorem Run.get {o : Option α} {P : α → Prop} (h : Run o P) : ∃ a, o = .some a ∧ P a := h
/-- a loop: forM -/
theorem forM_at {B : τ → α → Option τ} (Inv : Nat → τ → Prop) : ∀ (xs : List α) (i : Nat) (t : τ), Inv i t → (∀ (j : Nat) (x : α) (t : τ), xs[j]? = some x → Inv (i + j) t → Run (B t x) (Inv (i + j + 1))) → Run (forM B xs t) (Inv (i + xs.length))
  | [], i, t, h, _ => ⟨t, rfl, h⟩
  | x :: xs, i, t, h, st => by
    obtain ⟨t1, h1, h2⟩ := st 0 x t rfl h
    obtain ⟨t2, h3, h4⟩ := forM_at Inv xs (i + 1) t1 h2 fun j y t hy ht => by
      have := st (j + 1) y t (by simpa using hy) (by rw [show i + (j + 1) = i + 1 + j by omega]; exact ht)
      rw [show i + (j + 1) + 1 = i + 1 + j + 1 by omega] at this
      exact this
    refine ⟨t2, ?_, by rw [List.length_cons, show i + (xs.length + 1) = i + 1 + xs.length by omega]; exact h4⟩
    show (B t x).bind _ = _
    rw [h1]; exact h3
theorem forM_run {B : τ → α → Option τ} {xs : List α} {t : τ} (Inv : Nat → τ → Prop) (h : Inv 0 t) (st : ∀ (j : Nat) (x : α) (t : τ), xs[j]? = some x → Inv j t → Run (B t x) (Inv (j + 1))) : Run (forM B xs t) (Inv xs.length) := by
  have := forM_at (B := B) Inv xs 0 t h fun j x t hx ht => by
    rw [Nat.zero_add] at ht ⊢
    exact st j x t hx ht
  rwa [Nat.zero_add] at this
/-- .. over a range -/
theorem forM_rng {B : τ → β → Option τ} {n : Nat} {g : Nat → β} {t : τ} (Inv : Nat → τ → Prop) (h : Inv 0 t) (st : ∀ (j : Nat) (t : τ), j < n → Inv j t → Run (B t (g j)) (Inv (j + 1))) : Run (forM B ((List.range n).map g) t) (Inv n) := by
  have := forM_run (B := B) (xs := (List.range n).map g) Inv h fun j x t hx ht => by
    rw [List.getElem?_map] at hx
    by_cases hj : j < n
    · rw [List.getElem?_range hj] at hx
      cases hx
      exact st j t hj ht
    · rw [List.getElem?_eq_none (by simp; omega)] at hx
      cases hx
  simpa using this
/-- a loop: forL; each turn goes on or ends in R -/
def LpP (P : τ → Prop) (R : ω → Prop) : Lp τ ω → Prop
  | .nx t => P t
  | .bk _ => False
  | .rt r => R r
theorem forL_at {B : τ → α → Option (Lp τ ω)} (Inv : Nat → τ → Prop) (K : τ → Prop) (R : ω → Prop) : ∀ (xs : List α) (i : Nat) (t : τ), Inv i t → (∀ t, Inv (i + xs.length) t → K t) → (∀ (j : Nat) (x : α) (t : τ), xs[j]? = some x → Inv (i + j) t → Run (B t x) fun l => match l with | .nx t => Inv (i + j + 1) t | .bk t => K t | .rt r => R r) →
    Run (forL B xs t) (LpP K R)
  | [], i, t, h, hk, _ => ⟨.nx t, rfl, hk t h⟩
  | x :: xs, i, t, h, hk, st => by
    obtain ⟨l, h1, h2⟩ := st 0 x t rfl h
    have e : forL B (x :: xs) t = (B t x).bind fun p => match p with
      | .nx t => forL B xs t
      | .bk t => some (.nx t)
      | .rt r => some (.rt r) := rfl
    rw [e, h1]
    cases l with
    | nx t1 =>
      exact forL_at Inv K R xs (i + 1) t1 h2 (fun t ht => hk t (by rw [List.length_cons, show i + (xs.length + 1) = i + 1 + xs.length by omega]; exact ht)) fun j y t hy ht => by
        have := st (j + 1) y t (by simpa using hy) (by rw [show i + (j + 1) = i + 1 + j by omega]; exact ht)
        rw [show i + (j + 1) + 1 = i + 1 + j + 1 by omega] at this
        exact this
    | bk t1 => exact ⟨.nx t1, rfl, h2⟩
    | rt r => exact ⟨.rt r, rfl, h2⟩
theorem forL_run {B : τ → α → Option (Lp τ ω)} {xs : List α} {t : τ} (Inv : Nat → τ → Prop) (R : ω → Prop) (h : Inv 0 t) (st : ∀ (j : Nat) (x : α) (t : τ), xs[j]? = some x → Inv j t → Run (B t x) fun l => match l with | .nx t => Inv (j + 1) t | .bk t => Inv xs.length t | .rt r => R r) : Run (forL B xs t) (LpP (Inv xs.length) R) :=
  forL_at (B := B) Inv (Inv xs.length) R xs 0 t h (fun t ht => by rwa [Nat.zero_add] at ht) fun j x t hx ht => by
    rw [Nat.zero_add] at ht ⊢
    exact st j x t hx ht
theorem forL_rng {B : τ → β → Option (Lp τ ω)} {n : Nat} {g : Nat → β} {t : τ} (Inv : Nat → τ → Prop) (R : ω → Prop) (h : Inv 0 t) (st : ∀ (j : Nat) (t : τ), j < n → Inv j t → Run (B t (g j)) fun l => match l with | .nx t => Inv (j + 1) t | .bk t => Inv n t | .rt r => R r) : Run (forL B ((List.range n).map g) t) (LpP (Inv n) R) := by
  have := forL_run (B := B) (xs := (List.range n).map g) (t := t) Inv R h fun j x t hx ht => by
    rw [List.getElem?_map] at hx
    by_cases hj : j < n
    · rw [List.getElem?_range hj] at hx
      cases hx
      simpa using st j t hj ht
    · rw [List.getElem?_eq_none (by simp; omega)] at hx
      cases hx
  simpa using this
/-- .. where all turns go on -/
theorem forL_all {B : Unit → α → Option (Lp Unit ω)} {xs : List α} (h : ∀ x ∈ xs, B () x = some (.nx ())) : forL B xs () = some (.nx ()) := by
  induction xs with
  | nil => rfl
  | cons x xs ih =>
    rw [forL, h x List.mem_cons_self, Option.bind_some]
    exact ih fun y hy => h y (List.mem_cons_of_mem _ hy)
theorem elim_nx {k : τ → Option γ} {j : ω → Option γ} {t : τ} : Lp.elim k j (.nx t) = k t := rfl
theorem elim_rt {k : τ → Option γ} {j : ω → Option γ} {r : ω} : Lp.elim k j (.rt r : Lp τ ω) = j r := rfl
theorem elim_bk {k : τ → Option γ} {j : ω → Option γ} {t : τ} : Lp.elim k j (.bk t) = k t := rfl
/-- what comes behind a loop -/
theorem Run.elim {o : Option (Lp τ ω)} {k : τ → Option γ} {j : ω → Option γ} {P : τ → Prop} {R : ω → Prop} {Q : γ → Prop} (h : Run o (LpP P R)) (h1 : ∀ t, P t → Run (k t) Q) (h2 : ∀ r, R r → Run (j r) Q) : Run (o.bind (Lp.elim k j)) Q := by
  obtain ⟨l, rfl, p⟩ := h
  cases l with
  | nx t => exact h1 t p
  | bk t => exact p.elim
  | rt r => exact h2 r p
/-- while -/
theorem whL_run {c : τ → Option Bool} {B : τ → Option (Lp τ ω)} (Inv : τ → Prop) (μ : τ → Nat) (K : τ → Prop) (R : ω → Prop) (st : ∀ t, Inv t → Run (c t) fun b => (b = true ∧ Run (B t) fun l => match l with | .nx u => Inv u ∧ μ u < μ t | .bk u => K u | .rt r => R r) ∨ (b = false ∧ K t)) (t : τ) (h : Inv t) : Run (whL c B t) (LpP K R) := by
  have key : ∀ (k : Nat) (t : τ), μ t = k → Inv t → Run (whL c B t) (LpP K R) := by
    intro k
    induction k using Nat.strongRecOn with
    | _ k ih =>
      intro t hk hi
      rw [whL_eq]
      obtain ⟨b, e, h | h⟩ := st t hi
      · obtain ⟨rfl, l, e2, h2⟩ := h
        rw [e, Option.bind_some, if_pos rfl, e2, Option.bind_some]
        cases l with
        | nx u => exact ih (μ u) (by rw [← hk]; exact h2.2) u rfl h2.1
        | bk u => exact ⟨.nx u, rfl, h2⟩
        | rt r => exact ⟨.rt r, rfl, h2⟩
      · obtain ⟨rfl, h2⟩ := h
        rw [e]
        exact ⟨.nx t, rfl, h2⟩
  exact key (μ t) t rfl h
/-- comprehensions -/
theorem lcO_eq {p : α → Option Bool} {g : α → Option β} {P : α → Bool} {G : α → β} : ∀ (xs : List α), (∀ x ∈ xs, p x = some (P x)) → (∀ x ∈ xs, P x = true → g x = some (G x)) → lcO p g xs = some ((xs.filter P).map G)
  | [], _, _ => rfl
  | x :: xs, h, k => by
    show (p x).bind _ = _
    rw [h x List.mem_cons_self]
    show (if P x = true then _ else _) = _
    have ih := lcO_eq xs (fun y hy => h y (List.mem_cons_of_mem _ hy)) fun y hy => k y (List.mem_cons_of_mem _ hy)
    by_cases hp : P x = true
    · rw [if_pos hp, k x List.mem_cons_self hp, List.filter_cons, if_pos hp, ih]; rfl
    · rw [if_neg hp, List.filter_cons, if_neg hp, ih]
theorem lcO_map {p : α → Option Bool} {g : α → Option β} {G : α → β} (xs : List α) (h : ∀ x ∈ xs, p x = some true) (k : ∀ x ∈ xs, g x = some (G x)) : lcO p g xs = some (xs.map G) := by
  rw [lcO_eq (P := fun _ => true) (G := G) xs h fun x hx _ => k x hx, List.filter_eq_self.mpr fun _ _ => rfl]
theorem cap_ok {xs : List α} {o : Option β} (h : xs.length ≤ 1000000) : cap xs o = o := by unfold cap; rw [if_pos h]
theorem lcS_run {p : τ → α → Option Bool} {g : τ → α → Option (β × τ)} (Inv : τ → Prop) (P : β → Prop) : ∀ (xs : List α) (t : τ), Inv t → (∀ t, Inv t → ∀ x ∈ xs, p t x = some true ∧ Run (g t x) fun q => P q.1 ∧ Inv q.2) → Run (lcS p g xs t) fun w => w.1.length = xs.length ∧ (∀ y ∈ w.1, P y) ∧ Inv w.2
  | [], t, h, _ => ⟨([], t), rfl, rfl, by simp, h⟩
  | x :: xs, t, h, st => by
    obtain ⟨h1, ⟨y, t1⟩, h2, h3, h4⟩ := st t h x List.mem_cons_self
    obtain ⟨⟨ys, t2⟩, h5, h6, h7, h8⟩ := lcS_run Inv P xs t1 h4 fun t ht z hz => st t ht z (List.mem_cons_of_mem _ hz)
    refine ⟨(y :: ys, t2), ?_, by simp [h6], ?_, h8⟩
    · show (p t x).bind _ = _
      rw [h1]
      show (g t x).bind _ = _
      rw [h2]
      show (lcS p g xs t1).bind _ = _
      rw [h5]; rfl
    · intro z hz
      rcases List.mem_cons.mp hz with rfl | hz
      · exact h3
      · exact h7 z hz
theorem appO_ok {xs : List α} {v : α} (h : xs.length < 1000000) : appO xs v = some (xs ++ [v]) := by unfold appO; rw [if_pos h]
theorem extO_ok {xs ys : List α} (h : xs.length + ys.length ≤ 1000000) : extO xs ys = some (xs ++ ys) := by unfold extO; rw [if_pos h]
theorem imod_nn {n k : Int} (h : 0 < k) : ∃ j : Nat, imod n k = some (j : Int) ∧ (j : Int) < k := ⟨(n % k).toNat, by rw [imod_pos h]; have := Int.emod_nonneg n (by omega : k ≠ 0); congr 1; omega, by have := Int.emod_lt_of_pos n h; have := Int.emod_nonneg n (by omega : k ≠ 0); omega⟩
theorem beq_dec {c d : Prop} [Decidable c] [Decidable d] (h : c ↔ d) : decide c = decide d := by
  by_cases hd : d
  · rw [decide_eq_true hd, decide_eq_true (h.mpr hd)]
  · rw [decide_eq_false hd, decide_eq_false fun z => hd (h.mp z)]
theorem ipow_18' : ipow 10 18 = some 1000000000000000000 := by rw [ipow_eq, if_pos (by decide)]; rfl
theorem bind_id {o : Option α} : (o.bind fun b => some b) = o := by cases o <;> rfl
end
end Sm
namespace Sm
open PySem PySem.Spec L2
open Enc (enc)
section
variable {X : Cx} {αs : List Type} {Γ Γ1 Γ2 Γ' Γt : RTs X.K αs} {α β γ ρ : Type} {e e2 a b c : Expr} {es : List Expr} {pos p pn apos cpos : Pos} {n n' : Str}
noncomputable def popI {α : Type} : List α → Int → Option (α × List α) := (Seal fun (xs : List α) (i : Int) => if -(2 ^ 63) ≤ i ∧ i < 2 ^ 63 then (ixN xs.length i).bind fun j => (xs[j]?).map fun y => (y, xs.eraseIdx j) else none).1
noncomputable def mPopI (x : Var αs (List α)) (mi : M αs Int) : M αs α := fun s => (x.get s).bind fun _ => (mi s).bind fun p => (x.get p.2).bind fun xs => (popI xs p.1).bind fun q => some (q.1, x.set (some q.2) p.2)
instance {x : Var αs (List α)} {mi : M αs Int} [h : Mo mi] : Mo (mPopI x mi) := Mo.rd fun _ => Mo.bd (g := fun i s => (x.get s).bind fun xs => (Sm.popI xs i).bind fun q => some (q.1, x.set (some q.2) s)) h fun _ => Mo.rd fun _ => Mo.op fun _ => Mo.st
end
end Sm
namespace Sm
open PySem PySem.Spec L2
open Enc (enc)
inductive RuleD where
  | near | both
  deriving DecidableEq
theorem kit_self (K : Fr) (C : Addr) : PySem.W.kitOne K (.ref C) (.ref C) = some true := by
  unfold PySem.W.kitOne
  rw [if_pos (by simp)]
def RT.rule (K : Fr) (cls : RuleD → Option Addr) : RT K RuleD where
  rel := fun G _ v x _ => ∃ p dx C, v = .ref p ∧ cls x = some C ∧ G p = some (.ins C dx [])
  shr := fun G v x => ∃ p dx C, v = .ref p ∧ cls x = some C ∧ G p = some (.ins C dx [])
  fix := true
  grow := fun ⟨p, dx, C, e, c, h⟩ g _ => ⟨p, dx, C, e, c, g _ _ h⟩
  view := fun ⟨p, dx, C, e, c, h⟩ g _ => ⟨p, dx, C, e, c, g _ _ h⟩
  smono := fun ⟨p, dx, C, e, c, h⟩ g => ⟨p, dx, C, e, c, g _ _ h⟩
  wid := fun h _ => h
  ok := .inl ⟨rfl, fun _ _ _ _ _ => Iff.rfl⟩
end Sm
namespace Sm
open PySem PySem.Spec L2
open Enc (enc)
section
variable {X : Cx} {αs : List Type} {Γ Γ1 Γ2 Γ' Γt : RTs X.K αs} {α β γ ρ : Type} {e e2 a b c : Expr} {es : List Expr} {pos p pn apos cpos p1 p2 : Pos} {n n' : Str} {P : Pk X.K αs ρ}
/-- a slot is given up: what it owned is free -/
theorem Ok.kill {C : C0} {s : Env αs} {σ : L2.St} {G H : Hp} {o : Addr → Option Nat} (k : Ok C Γ s σ G H o) (x : Var αs α) (s2 : Env αs) (h2 : ∀ (β : Type) (y : Var αs β), y.idx ≠ x.idx → y.get s2 = y.get s) (hx : x.get s2 = none ∨ x.get s2 = x.get s) :
    Ok C (x.setR (RT.dead _ _) Γ) s2 σ G H (fun a => if o a = some x.idx then none else o a) ∧ ∀ B : Addr → Prop, (∀ a, B a → o a = some x.idx) → Tmp C B G H (fun a => if o a = some x.idx then none else o a) := by
  refine ⟨⟨k.g, k.gh, k.new, k.fr, k.dom, k.imm, fun a ha => ?_, k.len, Var.split x (fun z hz => ?_) fun β z hz u hu => ?_⟩, fun B hB a ha => ?_⟩
  · by_cases h : o a = some x.idx
    · simp [h] at ha
    · simp only [h, if_false] at ha; exact k.own a ha
  · rcases hx with hx | hx
    · rw [hx] at hz; cases hz
    · rw [hx] at hz
      obtain ⟨v', e', _⟩ := k.sl _ x z hz
      exact ⟨v', e', by rw [Var.rt_set]; exact trivial⟩
  · rw [h2 β z hz] at hu
    obtain ⟨v', e', r'⟩ := k.sl β z u hu
    refine ⟨v', e', ?_⟩
    rw [Var.rt_ne x z _ _ hz]
    refine (z.rt Γ).wid r' fun a ha => ?_
    have ha' : o a = some z.idx := ha
    show (if o a = some x.idx then none else o a) = some z.idx
    rw [if_neg (by rw [ha']; exact fun e => hz (Option.some.inj e))]; exact ha'
  · have ha' := hB a ha
    obtain ⟨h1, h2, h3⟩ := k.own a (by rw [ha']; simp)
    exact ⟨by simp [ha'], h1, h2, h3⟩
theorem Ok.kill0 {C : C0} {s : Env αs} {σ : L2.St} {G H : Hp} {o : Addr → Option Nat} (k : Ok C Γ s σ G H o) (x : Var αs α) :
    Ok C Γ (x.set none s) σ G H (fun a => if o a = some x.idx then none else o a) ∧ ∀ B : Addr → Prop, (∀ a, B a → o a = some x.idx) → Tmp C B G H (fun a => if o a = some x.idx then none else o a) := by
  obtain ⟨k2, t⟩ := k.kill x (x.set none s) (fun β w hw => Var.get_ne x w _ _ hw) (.inl (x.get_set _ _))
  refine ⟨⟨k2.g, k2.gh, k2.new, k2.fr, k2.dom, k2.imm, k2.own, k2.len, Var.split x (fun z hz => ?_) fun β z hz u hu => ?_⟩, t⟩
  · rw [x.get_set] at hz; cases hz
  · obtain ⟨v, h1, h2⟩ := k2.sl β z u hu
    rw [Var.rt_ne x z _ _ hz] at h2
    exact ⟨v, h1, h2⟩
/-- y = x[0]: the list moves -/
def sMv (y : Var αs (List α)) (x : Var αs (List α × β)) : MS αs ρ := fun s => (x.get s).bind fun p => some (.nx, y.set (some p.1) (x.set none s))
end
section
variable {αs : List Type} {α β ρ ω : Type} {s : Env αs} {o : Option ω} {Ψ : Ctl ρ → Env αs → Option ω → Prop}
instance {y : Var αs (List α)} {x : Var αs (List α × β)} : Mo (sMv y x : MS αs ρ) := Mo.rd fun p => ⟨fun l e => by cases e; exact ⟨_, rfl, Le.set y _ (Le.set x _ l)⟩⟩
end
end Sm
namespace Sm
open PySem PySem.Spec L2
open Enc (enc)
end Sm
namespace Zl
open PySem PySem.Spec PyProof.Rows L2
theorem zip_no_len : typeLookup (.type "zip") "__len__" = pure none := by rw [typeLookup_type, builtinLookup_eq_fast]; kernel_rfl
theorem zip_no_hint : typeLookup (.type "zip") "__length_hint__" = pure none := by rw [typeLookup_type, builtinLookup_eq_fast]; kernel_rfl
/-- a zip of two lists at turn i, its tuples held -/
def ZS (z TI TO i1 i2 l1 l2 S : Addr) (xs ys : Array Value) (i : Nat) (h : Heap) : Prop :=
  IsPair h TI (.ref i1) (.ref i2) ∧ h.IsListIter i1 l1 i ∧ h.IsListIter i2 l2 i ∧ h.IsList l1 xs ∧ h.IsList l2 ys ∧
  ((IsZip h z TI TO .none ∧ ∃ a b, IsPair h TO a b) ∨ ∃ T f oT, IsZipHeld h z TI TO T f ∧ h.get? T = some oT ∧ T ≠ z ∧ T ≠ i1 ∧ T ≠ i2 ∧ T ≠ S)
structure Ap (z TI TO i1 i2 l1 l2 S : Addr) : Prop where
  D : ZipApart z TI TO i1 i2 l1 l2
  z : z ≠ S
  TI : TI ≠ S
  TO : TO ≠ S
  i1 : i1 ≠ S
  i2 : i2 ≠ S
  l1 : l1 ≠ S
  l2 : l2 ≠ S
section
variable {prog : Program} {w : World} {A : Around} {E : Value → Shared → Prop} {s : Shared} {z TI TO i1 i2 l1 l2 S : Addr} {xs ys : Array Value} {i : Nat}
theorem zs_frame (a : Ap z TI TO i1 i2 l1 l2 S) {h h' : Heap} (st : ZS z TI TO i1 i2 l1 l2 S xs ys i h) (hk : ∀ c o, c ≠ S → h.get? c = some o → h'.get? c = some o) : ZS z TI TO i1 i2 l1 l2 S xs ys i h' := by
  obtain ⟨hTI, h1, h2, hl1, hl2, hz⟩ := st
  refine ⟨hk _ _ a.TI hTI, h1.at fun o e => hk _ o a.i1 e, h2.at fun o e => hk _ o a.i2 e, hl1.at fun o e => hk _ o a.l1 e, hl2.at fun o e => hk _ o a.l2 e, ?_⟩
  rcases hz with ⟨hz, p, q, hTO⟩ | ⟨T, f, oT, hz, hT, r1, r2, r3, r4⟩
  · exact .inl ⟨hk _ _ a.z hz, p, q, hk _ _ a.TO hTO⟩
  · exact .inr ⟨T, f, oT, hk _ _ a.z hz, hk _ _ r4 hT, r1, r2, r3, r4⟩
theorem zs_item {Q : Option Value → Shared → Prop} (a : Ap z TI TO i1 i2 l1 l2 S) (st : ZS z TI TO i1 i2 l1 l2 S xs ys i s.heap) (hi : i < min xs.size ys.size) (hds : S < s.heap.objs.size)
    (hQ : ∀ h' x y, xs[i]? = some x → ys[i]? = some y → IsPair h' s.heap.objs.size x y → ZS z TI TO i1 i2 l1 l2 S xs ys (i + 1) h' → h'.objs.size = s.heap.objs.size + 1 →
      (∀ c o, c ≠ z → c ≠ TO → c ≠ i1 → c ≠ i2 → s.heap.get? c = some o → h'.get? c = some o) → Q (some (.ref s.heap.objs.size)) { s with heap := h' }) :
    wpAny (model prog w) A (pyNext (.ref z)) Q E s := by
  obtain ⟨hTI, h1, h2, hl1, hl2, hz⟩ := st
  have D := a.D
  have hix : i < xs.size := Nat.lt_of_lt_of_le hi (Nat.min_le_left ..)
  have hiy : i < ys.size := Nat.lt_of_lt_of_le hi (Nat.min_le_right ..)
  have ex := Array.getElem?_eq_getElem hix
  have ey := Array.getElem?_eq_getElem hiy
  have lt : ∀ {c o}, s.heap.get? c = some o → s.heap.objs.size ≠ c := fun e => Nat.ne_of_gt (Heap.lt_size e)
  have n1 : s.heap.objs.size ≠ i1 := let ⟨_, e, _⟩ := h1; lt e
  have n2 : s.heap.objs.size ≠ i2 := let ⟨_, e, _⟩ := h2; lt e
  rcases hz with ⟨hz, p, q, hTO⟩ | ⟨T, f, oT, hz, hT, r1, r2, r3, r4⟩
  · refine wpAny_pyNext_zip_item D hz hTI hTO h1 h2 hl1 hl2 ex ey fun h' a1 a2 a3 a4 a5 a6 hk => ?_
    exact hQ h' _ _ ex ey a5
      ⟨hk _ _ D.TIz D.TITO D.TIi1 D.TIi2 hTI, a3, a4, hl1.at fun o e => hk _ o D.l1z D.l1TO D.l1i1 D.l1i2 e, hl2.at fun o e => hk _ o D.l2z D.l2TO D.l2i1 D.l2i2 e,
        .inr ⟨s.heap.objs.size, false, _, a1, a5, lt hz, n1, n2, Nat.ne_of_gt hds⟩⟩ a6 hk
  · refine wpAny_pyNext_zip_item_held D hz hT hTI h1 h2 hl1 hl2 ex ey fun h' a1 a3 a4 a5 a6 hk => ?_
    exact hQ h' _ _ ex ey a5
      ⟨hk _ _ D.TIz D.TIi1 D.TIi2 hTI, a3, a4, hl1.at fun o e => hk _ o D.l1z D.l1i1 D.l1i2 e, hl2.at fun o e => hk _ o D.l2z D.l2i1 D.l2i2 e,
        .inr ⟨T, true, oT, a1, hk _ _ r1 r2 r3 hT, r1, r2, r3, r4⟩⟩ a6 fun c o c1 _ c3 c4 e => hk c o c1 c3 c4 e
theorem zs_done {Q : Option Value → Shared → Prop} (hA : A.handled = none) (a : Ap z TI TO i1 i2 l1 l2 S) (st : ZS z TI TO i1 i2 l1 l2 S xs ys (min xs.size ys.size) s.heap)
    (hQ : ∀ h', (∀ c o, c ≠ z → c ≠ TO → c ≠ i1 → c ≠ i2 → s.heap.get? c = some o → h'.get? c = some o) → Q none { s with heap := h' }) :
    wpAny (model prog w) A (pyNext (.ref z)) Q E s := by
  obtain ⟨hTI, h1, h2, hl1, hl2, hz⟩ := st
  have D := a.D
  have hend : xs[min xs.size ys.size]? = none ∨ ys[min xs.size ys.size]? = none := by
    rcases Nat.le_total xs.size ys.size with h | h
    · exact .inl (Array.getElem?_eq_none (by rw [Nat.min_eq_left h]; exact Nat.le_refl _))
    · exact .inr (Array.getElem?_eq_none (by rw [Nat.min_eq_right h]; exact Nat.le_refl _))
  rcases hz with ⟨hz, p, q, hTO⟩ | ⟨T, f, oT, hz, hT, r1, r2, r3, r4⟩
  · exact wpAny_pyNext_zip_end hA D hz hTI hTO h1 h2 hl1 hl2 hend fun h' hk => hQ h' hk
  · exact wpAny_pyNext_zip_end_held hA D hz hT hTI h1 h2 hl1 hl2 hend fun h' hk => hQ h' fun c o c1 _ c3 c4 e => hk c o c1 c3 c4 e
theorem off {a n0 t : Nat} (h : Nat.lt a n0) (m : n0 ≤ t) : t ≠ a := Nat.ne_of_gt (Nat.lt_of_lt_of_le h m)
/-- the tuples so far -/
def Ts (xs ys : Array Value) (n0 : Nat) (h : Heap) (ts : List Addr) : Prop :=
  ts.Pairwise (· < ·) ∧ ∀ (j : Nat) (t : Nat), (ts[j]? : Option Nat) = some t → n0 ≤ t ∧ ∃ x y, xs[j]? = some x ∧ ys[j]? = some y ∧ IsPair h t x y
variable {R : Result → Shared → Prop}
theorem loop (hA : A.handled = none) (a : Ap z TI TO i1 i2 l1 l2 S) (hn : min xs.size ys.size ≤ sizeLine) (res : Value) (n0 : Nat) (b0 : Nat.lt S n0) (bz : Nat.lt z n0) (bT : Nat.lt TO n0) (b1 : Nat.lt i1 n0) (b2 : Nat.lt i2 n0) :
    ∀ (k i : Nat) (s : Shared) (acc : Array Value) (c : Nat) (ts : List Addr), min xs.size ys.size - i = k → i ≤ min xs.size ys.size → ZS z TI TO i1 i2 l1 l2 S xs ys i s.heap →
    s.heap.get? S = some { cls := .type "list", dict := none, data := .seq acc c, slots := #[] } → acc.toList = ts.map Value.ref → ts.length = i → Ts xs ys n0 s.heap ts → n0 ≤ s.heap.objs.size →
    (∀ h' tk acc' c' ts', (∀ b o, b ≠ S → b ≠ z → b ≠ TO → b ≠ i1 → b ≠ i2 → s.heap.get? b = some o → h'.get? b = some o) → h'.get? S = some { cls := .type "list", dict := none, data := .seq acc' c', slots := #[] } →
      acc'.toList = ts'.map Value.ref → ts'.length = min xs.size ys.size → Ts xs ys n0 h' ts' → R (.ok (.ret res)) { s with heap := h', toks := tk }) →
    codeAny (model prog w) A (.builtin "list.extend.loop" ⟨[.ref S, .ref z, res], []⟩) R s := by
  intro k
  induction k with
  | zero =>
    intro i s acc c ts hk hi hst hS hacc hl hts hb hR
    have hin : i = min xs.size ys.size := by omega
    refine codeAny_builtin F.entry_extend_loop ?_
    rw [Around.under_plainId F.plain_extend_loop _]
    show wpAny _ A.in1 (pyNext (.ref z) >>= _) _ _ s
    refine wpAny_bind (zs_done (A := A.in1) hA a (hin ▸ hst) fun h' hk' => ?_)
    refine wpAny_pure (hR h' s.toks acc c ts (fun b o _ q1 q2 q3 q4 e => hk' b o q1 q2 q3 q4 e) (hk' _ _ a.z.symm a.TO.symm a.i1.symm a.i2.symm hS) hacc (by omega) ⟨hts.1, fun j t e => ?_⟩)
    obtain ⟨m1, x, y, m2, m3, m4⟩ := hts.2 j t e
    exact ⟨m1, x, y, m2, m3, hk' _ _ (off bz m1) (off bT m1) (off b1 m1) (off b2 m1) m4⟩
  | succ k ih =>
    intro i s acc c ts hk hi hst hS hacc hl hts hb hR
    have hlt : i < min xs.size ys.size := by omega
    have hsz : acc.size = i := by rw [← Array.length_toList, hacc, List.length_map, hl]
    refine codeAny_builtin F.entry_extend_loop ?_
    rw [Around.under_plainId F.plain_extend_loop _]
    show wpAny _ A.in1 (pyNext (.ref z) >>= _) _ _ s
    refine wpAny_bind (zs_item a hst hlt (Nat.lt_of_lt_of_le b0 hb) fun h' x y ex ey hp hst' hz' hk' => ?_)
    have hS' := hk' _ _ a.z.symm a.TO.symm a.i1.symm a.i2.symm hS
    have up : ∀ b o, b ≠ S → h'.get? b = some o → (h'.update S (Obj.mapSeq (·.push (Value.ref s.heap.objs.size)))).get? b = some o := fun b o hb e => (Heap.get?_update_other _ _ (Ne.symm hb)).trans e
    show wpAny _ A.in1 (updateSeq S (·.push (Value.ref s.heap.objs.size)) >>= _) _ _ _
    refine wpAny_bind ?_
    refine wpAny_updateSeq hS' rfl (wpAny_pure ⟨plainId_quiet F.plain_extend_loop _, ih (i + 1) _ (acc.push (.ref s.heap.objs.size)) _ (ts ++ [s.heap.objs.size]) (by omega) hlt (zs_frame a hst' fun c o hc e => up c o hc e) (Heap.get?_update_self _ hS' rfl)
        (by simp [hacc]) (by simp [hl]) ⟨List.pairwise_append.mpr ⟨hts.1, by simp, fun t ht u hu => ?_⟩, fun j t e => ?_⟩ (by rw [Heap.size_update, hz']; omega) fun h'' tk acc' c' ts' q1 q2 q3 q4 q5 => ?_⟩)
      (by rw [hsz]; omega) (by show (acc.push _).size ≤ sizeLine + 1; rw [Array.size_push, hsz]; omega)
    · rw [List.mem_singleton.mp hu]
      obtain ⟨j, hj, e⟩ := List.getElem_of_mem ht
      obtain ⟨_, _, _, _, _, m4⟩ := hts.2 j t (by rw [← e]; exact List.getElem?_eq_getElem hj)
      exact Heap.lt_size m4
    · by_cases q : j < ts.length
      · rw [List.getElem?_append_left q] at e
        obtain ⟨m1, x', y', m2, m3, m4⟩ := hts.2 j t e
        exact ⟨m1, x', y', m2, m3, up _ _ (off b0 m1) (hk' _ _ (off bz m1) (off bT m1) (off b1 m1) (off b2 m1) m4)⟩
      · rw [List.getElem?_append_right (by omega)] at e
        have hj : j - ts.length = 0 := by
          cases z0 : j - ts.length with
          | zero => rfl
          | succ m => rw [z0] at e; simp at e
        rw [hj] at e
        have et : s.heap.objs.size = t := by simpa using e
        subst et
        have : j = i := by omega
        subst this
        exact ⟨hb, x, y, ex, ey, up _ _ (off b0 hb) hp⟩
    · refine hR h'' tk acc' c' ts' (fun b o r0 r1 r2 r3 r4 e => q1 b o r0 r1 r2 r3 r4 (up b o r0 (hk' b o r1 r2 r3 r4 e))) q2 q3 q4 q5
theorem list_zip {Q : Value → Shared → Prop} (hA : A.handled = none) (D : ZipApart z TI TO i1 i2 l1 l2) (hz : IsZip s.heap z TI TO .none) (hTI : IsPair s.heap TI (.ref i1) (.ref i2)) {p q : Value} (hTO : IsPair s.heap TO p q)
    (h1 : s.heap.IsListIter i1 l1 0) (h2 : s.heap.IsListIter i2 l2 0) (hl1 : s.heap.IsList l1 xs) (hl2 : s.heap.IsList l2 ys) (hn : min xs.size ys.size ≤ sizeLine)
    (hQ : ∀ h' tk acc' c' ts', (∀ b o, b ≠ z → b ≠ TO → b ≠ i1 → b ≠ i2 → s.heap.get? b = some o → h'.get? b = some o) → h'.get? s.heap.objs.size = some { cls := .type "list", dict := none, data := .seq acc' c', slots := #[] } →
      acc'.toList = ts'.map Value.ref → ts'.length = min xs.size ys.size → Ts xs ys (s.heap.objs.size + 1) h' ts' → Q (.ref s.heap.objs.size) { s with heap := h', toks := tk }) :
    wpAny (model prog w) A (call (.type "list") [.ref z]) Q E s := by
  have lz := Heap.lt_size hz
  have lTI := Heap.lt_size hTI
  have lTO := Heap.lt_size hTO
  have li1 : i1 < s.heap.objs.size := let ⟨_, e, _⟩ := h1; Heap.lt_size e
  have li2 : i2 < s.heap.objs.size := let ⟨_, e, _⟩ := h2; Heap.lt_size e
  have ll1 : l1 < s.heap.objs.size := let ⟨_, e, _⟩ := hl1; Heap.lt_size e
  have ll2 : l2 < s.heap.objs.size := let ⟨_, e, _⟩ := hl2; Heap.lt_size e
  have ap : Ap z TI TO i1 i2 l1 l2 s.heap.objs.size := ⟨D, Nat.ne_of_lt lz, Nat.ne_of_lt lTI, Nat.ne_of_lt lTO, Nat.ne_of_lt li1, Nat.ne_of_lt li2, Nat.ne_of_lt ll1, Nat.ne_of_lt ll2⟩
  refine callType_codes (Q₁ := fun obj s₁ => obj = .ref s.heap.objs.size ∧ s₁ = { s with heap := s.heap.push { cls := .type "list", data := .seq #[] } }) F.called_list (F.typeCall_list_1 _) F.entry_list_init
    (code_list_new _ ⟨rfl, rfl⟩) fun obj s₁ h₁ => ?_
  obtain ⟨rfl, rfl⟩ := h₁
  have pu : ∀ b o, s.heap.get? b = some o → (s.heap.push { cls := .type "list", data := .seq #[] }).get? b = some o := fun b o e => Heap.get?_push_of_some _ e
  have hS : (s.heap.push { cls := .type "list", data := .seq #[] }).get? s.heap.objs.size = some { cls := .type "list", data := .seq #[] } := Heap.get?_push_size _ rfl
  have zs : ZS z TI TO i1 i2 l1 l2 s.heap.objs.size xs ys 0 (s.heap.push { cls := .type "list", data := .seq #[] }) :=
    ⟨pu _ _ hTI, h1.at fun o e => pu _ o e, h2.at fun o e => pu _ o e, hl1.at fun o e => pu _ o e, hl2.at fun o e => pu _ o e, .inl ⟨pu _ _ hz, p, q, pu _ _ hTO⟩⟩
  refine ⟨⟨_, hS, rfl⟩, F.args_list_init_2 _ _, ?_⟩
  show wpAny _ A.in1.in1 (do let old ← Builtin.List.listItems (.ref s.heap.objs.size); Builtin.List.listUpdate (.ref s.heap.objs.size) (fun _ => #[]); letGo old.toList.reverse; Builtin.List.listExtendWith (.ref s.heap.objs.size) (.ref z) .none) _ _ _
  refine wpAny_bind ?_
  unfold Builtin.List.listItems
  refine wpAny_bind (wpAny_seqItems hS rfl (wpAny_pure ?_))
  show wpAny _ _ (updateSeq s.heap.objs.size (fun _ => #[]) >>= fun _ => letGo (#[] : Array Value).toList.reverse >>= fun _ => Builtin.List.listExtendWith (.ref s.heap.objs.size) (.ref z) .none) _ _ _
  refine wpAny_bind (wpAny_updateSeq hS rfl ?_)
  have hS₁ := Heap.get?_update_self (Obj.mapSeq (fun _ => (#[] : Array Value))) hS rfl
  refine wpAny_bind (wpAny_letGo ?_)
  have zs1 := zs_frame ap zs (h' := (s.heap.push { cls := .type "list", data := .seq #[] }).update s.heap.objs.size (Obj.mapSeq (fun _ => (#[] : Array Value)))) fun c o hc e => (Heap.get?_update_other _ _ (Ne.symm hc)).trans e
  have tz : Shared.TypeIs ({ s with heap := (s.heap.push { cls := .type "list", data := .seq #[] }).update s.heap.objs.size (Obj.mapSeq (fun _ => (#[] : Array Value))) } : Shared) (.ref z) "zip" := by
    obtain ⟨_, _, _, _, _, hz'⟩ := zs1
    rcases hz' with ⟨hz', _⟩ | ⟨_, _, _, hz', _⟩
    · exact ⟨_, hz', rfl⟩
    · exact ⟨_, hz', rfl⟩
  have hz1 : IsZip ((s.heap.push { cls := .type "list", data := .seq #[] }).update s.heap.objs.size (Obj.mapSeq (fun _ => (#[] : Array Value)))) z TI TO .none := (Heap.get?_update_other _ _ ap.z.symm).trans (pu _ _ hz)
  have hSI : s.heap.objs.size ≠ z := ap.z.symm
  unfold Builtin.List.listExtendWith
  refine wpAny_bind (wpAny_typeOf tz ?_)
  have e1 : Builtin.List.listSameRef (.ref s.heap.objs.size) (.ref z) = false := by simp [Builtin.List.listSameRef, hSI]
  have e2 : (Value.type "zip" == Value.type "list") = false := by decide
  have e3 : (Value.type "zip" == Value.type "tuple") = false := by decide
  simp only [e1, e2, e3, Bool.or_false, Bool.false_eq_true, if_false]
  refine wpAny_bind (wpAny_pyIter_zip hz1 ?_)
  refine wpAny_bind (wpAny_holding ?_)
  unfold Builtin.List.listLengthHint
  refine wpAny_bind (wpAny_specialOf tz zip_no_len ?_)
  show wpAny _ _ (specialOf (Value.ref z) (Str.ofString "__length_hint__") >>= _) _ _ _
  refine wpAny_bind (wpAny_specialOf tz zip_no_hint ?_)
  refine wpAny_pure ?_
  show wpAny _ _ (rule "list.extend.makes-room" >>= fun _ => Builtin.List.listTouch (.ref s.heap.objs.size) >>= fun _ =>
    again (.builtin "list.extend.loop" ⟨[.ref s.heap.objs.size, .ref z, .none], []⟩)) _ _ _
  refine wpAny_bind (wpAny_rule ?_)
  refine wpAny_bind ?_
  show wpAny _ _ (updateSeq s.heap.objs.size (·.push .none) >>= fun _ => updateSeq s.heap.objs.size (·.pop)) _ _ _
  refine wpAny_bind (wpAny_updateSeq hS₁ rfl ?_)
  have hS₂ := Heap.get?_update_self (Obj.mapSeq (·.push Value.none)) hS₁ rfl
  refine wpAny_updateSeq (hz := by seq_fits) hS₂ rfl ?_
  have hS₃ := Heap.get?_update_self (Obj.mapSeq (·.pop)) hS₂ rfl
  have oth : ∀ b o, b ≠ s.heap.objs.size → (s.heap.push { cls := .type "list", data := .seq #[] }).get? b = some o →
    ((((s.heap.push { cls := .type "list", data := .seq #[] }).update s.heap.objs.size (Obj.mapSeq (fun _ => (#[] : Array Value)))).update s.heap.objs.size (Obj.mapSeq (·.push Value.none))).update s.heap.objs.size (Obj.mapSeq (·.pop))).get? b = some o :=
    fun b o hb e => (Heap.get?_update_other _ _ (Ne.symm hb)).trans ((Heap.get?_update_other _ _ (Ne.symm hb)).trans ((Heap.get?_update_other _ _ (Ne.symm hb)).trans e))
  refine wpAny_pure ⟨plainId_quiet F.plain_extend_loop _, loop (A := A.in1) hA ap hn .none (s.heap.objs.size + 1) (Nat.lt_succ_self _) (Nat.lt_succ_of_lt lz) (Nat.lt_succ_of_lt lTO) (Nat.lt_succ_of_lt li1) (Nat.lt_succ_of_lt li2) _ 0 _ #[] _ [] rfl (Nat.zero_le _) (zs_frame ap zs oth) hS₃ rfl rfl ⟨.nil, fun j t e => by simp at e⟩
    (by rw [Heap.size_update, Heap.size_update, Heap.size_update, Heap.size_push]; exact Nat.le_refl _) fun h' tk acc' c' ts' q1 q2 q3 q4 q5 => ?_⟩
  exact ⟨rfl, hQ h' tk acc' c' ts' (fun b o r1 r2 r3 r4 e => q1 b o (Nat.ne_of_lt (Heap.lt_size e)) r1 r2 r3 r4 (oth b o (Nat.ne_of_lt (Heap.lt_size e)) (pu b o e))) q2 q3 q4 q5⟩
end
theorem vals_refs : ∀ as : List Addr, Vals (as.map V.ref) (as.map Value.ref)
  | [] => .nil
  | _ :: as => .cons rfl (vals_refs as)
/-- the heap with the tuples and their list -/
def putZ (H : Hp) (p : Addr) (ts : List Addr) (xs ys : List V) : Hp := fun b =>
  if b = p then some (.lst (ts.map V.ref)) else if b ∈ ts then some (.tup [xs.getD (ts.idxOf b) .non, ys.getD (ts.idxOf b) .non]) else H b
section
variable {X : Cx} {e e2 : Expr} {ta : TA} {p p2 pos pos2 : Pos}
theorem laidZ {pins : List (Addr × Obj)} {σ : L2.St} {H : Hp} {s : Shared} {h' : Heap} {tk : Nat} {xs ys : List V} {us ws : List Value} {acc : Array Value} {c : Nat} {p : Addr} {ts : List Addr} (I : Inv X pins σ H s) (hx : Vals xs us) (hy : Vals ys ws) (hz : min xs.length ys.length ≤ sizeLine)
    (hp : s.heap.objs.size ≤ p) (hk : ∀ b o, s.heap.get? b = some o → h'.get? b = some o) (hS : h'.get? p = some { cls := .type "list", dict := none, data := .seq acc c, slots := #[] }) (hl : ts.length = min xs.length ys.length)
    (hT : Ts us.toArray ws.toArray (p + 1) h' ts) (hacc : acc.toList = ts.map Value.ref) :
    Inv X pins σ (putZ H p ts xs ys) { s with heap := h', toks := tk } := by
  have tp : ∀ t, t ∈ ts → p < t := fun t ht => by
    obtain ⟨j, hj, e⟩ := List.getElem_of_mem ht
    exact (hT.2 j t (by rw [← e]; exact List.getElem?_eq_getElem hj)).1
  have newp : H p = none := I.hok.fresh hp
  have newt : ∀ t ∈ ts, H t = none := fun t ht => I.hok.fresh (Nat.le_trans hp (Nat.le_of_lt (tp t ht)))
  have off : ∀ b, b ∉ ts → b ≠ p → putZ H p ts xs ys b = H b := fun b h1 h2 => by unfold putZ; rw [if_neg h2, if_neg h1]
  have low : ∀ b o, s.heap.get? b = some o → b ∉ ts ∧ b ≠ p := fun b o e => ⟨fun z => absurd (Heap.lt_size e) (Nat.not_lt.mpr (Nat.le_trans hp (Nat.le_of_lt (tp b z)))), fun z => absurd (Heap.lt_size e) (Nat.not_lt.mpr (by rw [z]; exact hp))⟩
  have kp : ∀ b u, H b = some u → putZ H p ts xs ys b = some u := fun b u e => by
    rw [off b (fun z => by rw [newt b z] at e; cases e) (fun z => by rw [z, newp] at e; cases e)]
    exact e
  refine I.call' (ch := []) rfl ⟨fun b o q _ _ _ => hk b o q, fun b o q _ _ _ => ⟨o.slots, hk b o q⟩, fun b o q n _ => ?_, fun b o q _ => ⟨o, hk b o q⟩, fun b xs q => kp b _ q, fun b o u q => kp b _ q, fun b ps q => ⟨#[], by rw [kp b _ q]; simp⟩⟩ (fun b u q => ?_) I.bare fun b z => by simp at z
  · obtain ⟨z1, z2⟩ := low b o q
    rw [off b z1 z2]
    exact n
  · by_cases hb2 : b = p
    · rw [hb2] at q ⊢
      unfold putZ at q
      rw [if_pos rfl] at q
      cases q
      refine ⟨by rw [List.length_map, hl]; exact hz, acc.toList, c, by rw [hacc]; exact vals_refs ts, ?_⟩
      rw [Array.toArray_toList]
      exact hS
    · by_cases hb : b ∈ ts
      · unfold putZ at q
        rw [if_neg hb2, if_pos hb] at q
        cases q
        have hj : ts.idxOf b < ts.length := List.idxOf_lt_length_of_mem hb
        obtain ⟨_, x, y, q1, q2, q3⟩ := hT.2 (ts.idxOf b) b (by rw [List.getElem?_eq_getElem hj]; simp)
        have g : ∀ {vs : List V} {us : List Value} {x : Value}, Vals vs us → us.toArray[ts.idxOf b]? = some x → RelV (vs.getD (ts.idxOf b) .non) x := fun {vs us x} r h => by
          have h' : us[ts.idxOf b]? = some x := by simpa using h
          have hlt : ts.idxOf b < vs.length := by rw [r.length]; exact (List.getElem?_eq_some_iff.mp h').1
          obtain ⟨u, h1, h2⟩ := r.get (List.getElem?_eq_getElem hlt)
          rw [h'] at h1; cases h1
          rw [List.getD_eq_getElem?_getD, List.getElem?_eq_getElem hlt]
          exact h2
        exact ⟨by show 2 ≤ sizeLine; decide, [x, y], .cons (g hx q1) (.cons (g hy q2) .nil), ⟨_, q3, rfl, _, rfl⟩⟩
      · rw [off b hb hb2] at q
        exact (I.hok b u q).stay (fun d v _ y => hk d v y) (fun d y => kp d _ y) fun d xs y => kp d _ y
def tListZip (K : PySem.W.Frag) (ta : TA) : TE := fun σ H Q => ta σ H fun vs H1 => ∃ a b xs ys, vs = [.ref a, .ref b] ∧ SqL K H1 a xs ∧ SqL K H1 b ys ∧
  ∀ (p : Addr) (ts : List Addr), H1 p = none → (∀ t ∈ ts, H1 t = none) → p ∉ ts → ts.Nodup → ts.length = min xs.length ys.length → Q (.ref p) (putZ H1 p ts xs ys)
theorem pe_listZip (hc : X.calm = true) (hg : Gl X "list") (hm : X.mg "list" = none) (hg2 : Gl X "zip") (hm2 : X.mg "zip" = none) (ha : PA X [e, e2] ta)
    (hs : starEach [e, e2] X.env = (false, eval e X.env) :: starEach [e2] X.env := by exact star_cons rfl) (hpl : (backTo pos2 (starEach [e2] X.env)).any (·.1) = false := by rfl)
    (na : starEach [.Call (.Name "zip" p2) [e, e2] [] pos2] X.env = (false, eval (.Call (.Name "zip" p2) [e, e2] [] pos2) X.env) :: starEach [] X.env := by exact star_cons rfl) :
    PE X (.Call (.Name "list" p) [.Call (.Name "zip" p2) [e, e2] [] pos2] [] pos) (tListZip X.K ta) := by
  refine ⟨fun pins s σ H Q I h => ?_⟩
  have hz : wpAny (model X.prog X.w) X.A (eval (.Call (.Name "zip" p2) [e, e2] [] pos2) X.env) (fun v s2 => ∃ (s1 : Shared) (H1 : Hp) (a b : Addr) (xs ys : List V) (us ws : List Value), Inv X pins σ H1 s1 ∧ v = .ref (s1.heap.objs.size + 4) ∧ s2 = { s1 with heap := s2.heap } ∧
      ZipApart (s1.heap.objs.size + 4) (s1.heap.objs.size + 2) (s1.heap.objs.size + 3) s1.heap.objs.size (s1.heap.objs.size + 1) a b ∧ IsZip s2.heap (s1.heap.objs.size + 4) (s1.heap.objs.size + 2) (s1.heap.objs.size + 3) .none ∧ IsPair s2.heap (s1.heap.objs.size + 2) (.ref s1.heap.objs.size) (.ref (s1.heap.objs.size + 1)) ∧ IsPair s2.heap (s1.heap.objs.size + 3) .none .none ∧
      s2.heap.IsListIter s1.heap.objs.size a 0 ∧ s2.heap.IsListIter (s1.heap.objs.size + 1) b 0 ∧ s2.heap.IsList a us.toArray ∧ s2.heap.IsList b ws.toArray ∧ s2.heap.objs.size = s1.heap.objs.size + 5 ∧ (∀ c o, s1.heap.get? c = some o → s2.heap.get? c = some o) ∧ Vals xs us ∧ Vals ys ws ∧ xs.length ≤ sizeLine ∧
      ∀ (p : Addr) (ts : List Addr), H1 p = none → (∀ t ∈ ts, H1 t = none) → p ∉ ts → ts.Nodup → ts.length = min xs.length ys.length → Q (.ref p) (putZ H1 p ts xs ys)) X.xe s := by
    refine Call_ (ld_blt I hg2 hm2 PyProof.Rows.boot_zip (PyProof.Rows.callWith_type1 (thn (ha.run pos2 pins s σ H _ I h) fun us0 s1 ⟨vs, H1, I1, r1, q1⟩ => ?_) hs hpl))
    obtain ⟨a, b, xs, ys, ex, hqx, hqy, q⟩ := q1
    subst ex
    cases r1 with
    | cons r rr =>
      cases rr with
      | cons r' rr =>
        cases rr
        cases r
        cases r'
        obtain ⟨us, rv, p1, hz1⟩ := I1.list hqx
        obtain ⟨ws, rv2, p2, _⟩ := I1.list hqy
        refine call_zip_2 p1.isList p2.isList fun h' hz hTI hTO h1 h2 hsz hk => ?_
        exact ⟨s1, H1, a, b, xs, ys, us, ws, I1, rfl, rfl, PySem.W.ktu_apart s1.heap.objs.size a b p1.lt p2.lt, hz, hTI, hTO, h1, h2, p1.isList.at fun o e => hk _ o e, p2.isList.at fun o e => hk _ o e, hsz, hk, rv, rv2, hz1, q⟩
  refine Call_ (ld_blt I hg hm boot_list (PyProof.Rows.callWith_type1 (args_cons (thn hz fun v s2 hv => args_nil ?_) na) na))
  obtain ⟨s1, H1, a, b, xs, ys, us, ws, I1, rfl, es, D, z1, z2, z3, z4, z5, z6, z7, hsz, hk, rv, rv2, hl1, q⟩ := hv
  have l1 := rv.length
  have l2 := rv2.length
  have mn : min us.toArray.size ws.toArray.size = min xs.length ys.length := by simp [l1, l2]
  refine list_zip (I1.ok.hd hc) D z1 z2 z3 z4 z5 z6 z7 (by rw [mn]; omega) fun h' tk acc' c' ts' k1 k2 k3 k4 k5 => ?_
  have hk2 : ∀ b o, s1.heap.get? b = some o → h'.get? b = some o := fun b o e => by
    have lt := Heap.lt_size e
    exact k1 b o (Nat.ne_of_lt (Nat.lt_of_lt_of_le lt (Nat.le_add_right _ 4))) (Nat.ne_of_lt (Nat.lt_of_lt_of_le lt (Nat.le_add_right _ 3))) (Nat.ne_of_lt lt) (Nat.ne_of_lt (Nat.lt_of_lt_of_le lt (Nat.le_add_right _ 1))) (hk b o e)
  have tp : ∀ t, t ∈ ts' → s2.heap.objs.size < t := fun t ht => by
    obtain ⟨j, hj, e⟩ := List.getElem_of_mem ht
    exact (k5.2 j t (by rw [← e]; exact List.getElem?_eq_getElem hj)).1
  have I2 := laidZ (tk := tk) I1 rv rv2 (by omega) (p := s2.heap.objs.size) (by omega) hk2 k2 (by rw [k4, mn]) k5 k3
  refine ⟨.ref s2.heap.objs.size, _, ?_, rfl, q s2.heap.objs.size ts' (I1.hok.fresh (by omega)) (fun t ht => I1.hok.fresh (by have := tp t ht; omega)) (fun ht => Nat.lt_irrefl _ (tp _ ht)) (k5.1.imp fun h => Nat.ne_of_lt h) (by rw [k4, mn])⟩
  rw [es]
  exact I2
end
end Zl
namespace Sm
open PySem PySem.Spec L2
open Enc (enc)
section
variable {X : Cx} {αs : List Type} {Γ : RTs X.K αs} {α β : Type} {a b : Expr} {p p2 pos pos2 : Pos}
theorem all2_of {α β : Type} {P : α → β → Prop} : ∀ {as : List α} {bs : List β}, as.length = bs.length → (∀ (i : Nat) a b, as[i]? = some a → bs[i]? = some b → P a b) → All2 P as bs
  | [], [], _, _ => trivial
  | [], _ :: _, h, _ => by simp at h
  | _ :: _, [], h, _ => by simp at h
  | a :: as, b :: bs, h, k => ⟨k 0 a b rfl rfl, all2_of (by simpa using h) fun i x y hx hy => k (i + 1) x y (by simpa using hx) (by simpa using hy)⟩
theorem idxOf_nodup {α : Type} [BEq α] [LawfulBEq α] : ∀ {ts : List α} {i : Nat}, ts.Nodup → (hi : i < ts.length) → ts.idxOf ts[i] = i
  | t :: ts, 0, _, _ => by simp
  | t :: ts, i + 1, h, hi => by
    obtain ⟨h1, h2⟩ := List.nodup_cons.mp h
    have ih := idxOf_nodup h2 (i := i) (by simpa using hi)
    have ne : (t == ts[i]'(by simpa using hi)) = false := by
      rw [beq_eq_false_iff_ne]
      intro e
      exact h1 (by rw [e]; exact List.getElem_mem _)
    rw [List.getElem_cons_succ, List.idxOf_cons, ne]
    show cond false 0 _ = _
    rw [cond_false, ih]
theorem XE.lzip [Enc α] [Enc β] [PureE α] [PureE β] {ma : M αs (List α)} {mb : M αs (List β)} (hc : X.calm = true) (hg : Gl X "list") (hm : X.mg "list" = none) (hg2 : Gl X "zip") (hm2 : X.mg "zip" = none)
    (ha : XE X Γ a (RT.dat X.K (List α)) ma) (hb : XE X Γ b (RT.dat X.K (List β)) mb)
    (hp : PA X [a, b] (tCons (wE X a) (tCons (wE X b) tNil)) := by exact pa_cons pe_w (pa_cons pe_w pa_nil (star_cons rfl)) (star_cons rfl)) (hs : starEach [a, b] X.env = (false, eval a X.env) :: starEach [b] X.env := by exact star_cons rfl) (hpl : (backTo pos2 (starEach [b] X.env)).any (·.1) = false := by rfl)
    (na : starEach [.Call (.Name "zip" p2) [a, b] [] pos2] X.env = (false, eval (.Call (.Name "zip" p2) [a, b] [] pos2) X.env) :: starEach [] X.env := by exact star_cons rfl) :
    XE X Γ (.Call (.Name "list" p) [.Call (.Name "zip" p2) [a, b] [] pos2] [] pos) (RT.own X.K (α × β)) (m2 zipL ma mb) := by
  classical
  intro C s σ G H o k xs s' hm' Q q
  obtain ⟨ys, s1, zs, h1, h2, h3⟩ := m2E hm'
  cases h3
  refine wE_of (Zl.pe_listZip hc hg hm hg2 hm2 hp hs hpl na) ?_
  refine ha C s σ G H o k ys s1 h1 _ fun v G1 H1 o1 B k1 g1 kp r t => ?_
  refine hb C s1 σ G1 H1 o1 k1 zs s' h2 _ fun u G2 H2 o2 B2 k2 g2 kp2 r2 t2 => ?_
  obtain ⟨pa, vs, rfl, hpa, hv⟩ := dq_list (dq_mono g2 r)
  obtain ⟨pb, us, rfl, hpb, hu⟩ := dq_list r2
  refine ⟨pa, pb, vs, us, rfl, SqL.of (k2.gh _ _ hpa), SqL.of (k2.gh _ _ hpb), fun l ts e1 e2 e3 e4 e5 => ?_⟩
  have gn : ∀ a, H2 a = none → G2 a = none := fun a h => by
    cases z : G2 a with
    | none => rfl
    | some u => rw [k2.gh a u z] at h; cases h
  have tl : ∀ t, t ∈ ts → t ≠ l := fun t ht z => e3 (z ▸ ht)
  have exG : Ex G2 (fun a => if a ∈ ts then Zl.putZ H2 l ts vs us a else G2 a) := fun a ob z => by
    have h : a ∉ ts := fun h => by rw [gn a (e2 a h)] at z; cases z
    simp only [h, if_false]; exact z
  have exH : Ex H2 (Zl.putZ H2 l ts vs us) := fun a ob z => by
    have h : a ∉ ts := fun h => by rw [e2 a h] at z; cases z
    have h2 : a ≠ l := fun h => by rw [h, e1] at z; cases z
    unfold Zl.putZ
    rw [if_neg h2, if_neg h]; exact z
  have al : Al G2 H2 (fun a => if a ∈ ts then Zl.putZ H2 l ts vs us a else G2 a) (Zl.putZ H2 l ts vs us) := by
    refine ⟨exG, fun a ob z => ?_, exH, fun a ha ga => ?_⟩
    · by_cases h : a ∈ ts
      · simpa [h] using z
      · simp only [h, if_false] at z; exact exH a ob (k2.gh a ob z)
    · have h : a ∉ ts := fun h => ha (e2 a h)
      simp only [h, if_false]; exact ga
  have hl : Zl.putZ H2 l ts vs us l = some (.lst (ts.map V.ref)) := by unfold Zl.putZ; rw [if_pos rfl]
  have nb : NewB G2 H2 (fun a => if a ∈ ts then Zl.putZ H2 l ts vs us a else G2 a) (Zl.putZ H2 l ts vs us) (fun a => a = l) := fun a ha => by
    subst ha
    exact ⟨e1, by simp [e3, gn _ e1], _, hl, rfl⟩
  refine q (.ref l) _ _ o2 (fun a => a = l) (k2.al al) ((g1.trans g2).trans al.g) (kp.trans kp2) ⟨l, _, rfl, rfl, hl, ?_⟩ (nb.tmp k2)
  have hvl := hv.len
  have hul := hu.len
  refine all2_of (by simp [e5, hvl, hul]) fun i w x hw hx => ?_
  rw [List.getElem?_map] at hw
  obtain ⟨t, ht, rfl⟩ := Option.map_eq_some_iff.mp hw
  obtain ⟨hx1, hx2⟩ := List.getElem?_zip_eq_some.mp hx
  obtain ⟨v1, w1, w3⟩ := hv.get hx1
  obtain ⟨v2, w2, w4⟩ := hu.get hx2
  have hmem : t ∈ ts := List.mem_of_getElem? ht
  have hidx : ts.idxOf t = i := by
    obtain ⟨hi, e⟩ := List.getElem?_eq_some_iff.mp ht
    rw [← e]; exact idxOf_nodup e4 hi
  have ht2 : (if t ∈ ts then Zl.putZ H2 l ts vs us t else G2 t) = some (.tup [v1, v2]) := by
    rw [if_pos hmem]
    unfold Zl.putZ
    rw [if_neg (tl t hmem), if_pos hmem, hidx, List.getD_eq_getElem?_getD, List.getD_eq_getElem?_getD, w1, w2]; rfl
  exact show Dq X.K _ _ (.tuple [enc x.1, enc x.2]) from .tup (SqT.of ht2) (.cons (dq_mono al.g w3) (.cons (dq_mono al.g w4) .nil))
end
end Sm
namespace Sm
open PySem PySem.Spec L2
open Enc (enc)
/-- what is sorted: tuples of ints -/
class SrtE (α : Type) [Enc α] where
  dim : Nat
  key : α → List Int
  pos : 1 ≤ dim
  len : ∀ x, (key x).length = dim
  is : ∀ x : α, enc x = .tuple ((key x).map PyData.int)
  inj : ∀ x y : α, key x = key y → x = y
instance : SrtE (Int × Int) := ⟨2, fun x => [x.1, x.2], by decide, fun _ => rfl, fun _ => rfl, fun x y h => by
  simp at h
  exact Prod.ext h.1 h.2⟩
instance : SrtE (T3 Int Int Int) := ⟨3, fun x => [x.a, x.b, x.c], by decide, fun _ => rfl, fun _ => rfl, fun x y h => by
  simp at h
  cases x; cases y
  simp at h ⊢
  exact h⟩
end Sm
namespace Sm
open PySem PySem.Spec L2
open Enc (enc)
section
variable {X : Cx} {αs : List Type} {Γ Γ1 Γ2 Γ' Γt : RTs X.K αs} {α β γ ρ : Type} {e a b c tg iter elt : Expr} {pos : Pos}
/-- [[] for x in ..] -/
def mLcE (mi : M αs (List α)) : M αs (List (List β)) := fun s => (mi s).bind fun p => if p.1.length ≤ 1000000 then some (p.1.map fun _ => [], p.2) else none
variable {scope : Scope} {own : List (Str × Nat)} {P : Pk X.K αs ρ}
end
end Sm
namespace Sm
open PySem PySem.Spec L2
open Enc (enc)
section
variable {X : Cx} {αs : List Type} {Γ : RTs X.K αs} {α ρ : Type} {es : List Expr} {i : Expr} {pos pos' pn : Pos} {n : Str}
noncomputable def mCallE {ps : List Type} (y : Var αs (List (List α))) (mi : M αs Int) (κ : Ks αs ps) (f : Env (List α :: ps) → Option (ρ × Env (List α :: ps))) (ma : M αs (Env ps)) : M αs ρ := fun s => (y.get s).bind fun _ => (mi s).bind fun p => (y.get p.2).bind fun xss => (Sm.idx xss p.1).bind fun xs => (ma p.2).bind fun q =>
  (f ((some xs, q.1) : Option (List α) × Env ps)).bind fun r => (r.2.1).bind fun xs' => (setAt xss p.1 xs').bind fun xss' => some (r.1, y.set (some xss') (κ.put r.2.2 q.2))
end
end Sm
namespace Sm
open PySem PySem.Spec L2
section
variable {αs : List Type} {α β γ ρ τ ω : Type} {s : Env αs} {o : Option ω}
instance {mi : M αs (List α)} [h : Mo mi] : Mo (mLcE (β := β) mi) := by
  have k : ∀ xs : List α, Mo (fun s : Env αs => (if xs.length ≤ 1000000 then some (xs.map fun _ => ([] : List β), s) else none : Option (List (List β) × Env αs))) := fun xs => Mo.if Mo.rt Mo.no
  exact Mo.bd (g := fun (xs : List α) (s : Env αs) => (if xs.length ≤ 1000000 then some (xs.map fun _ => ([] : List β), s) else none : Option (List (List β) × Env αs))) h k
theorem Mo.putst {ps : List Type} {κ : Ks αs ps} {b : β} {as : Env ps} {y : Var αs γ} {a : Option γ} : Mo (fun s : Env αs => some (b, y.set a (κ.put as s))) := ⟨fun l e => by cases e; exact ⟨_, rfl, Le.set y _ (κ.put_le as l)⟩⟩
instance {ps : List Type} {y : Var αs (List (List α))} {mi : M αs Int} {κ : Ks αs ps} {f : Env (List α :: ps) → Option (ρ × Env (List α :: ps))} {ma : M αs (Env ps)} [h : Mo mi] [k : Mo ma] : Mo (mCallE y mi κ f ma) :=
  Mo.rd fun _ => Mo.bd (g := fun j s => (y.get s).bind fun xss => (Sm.idx xss j).bind fun xs => (ma s).bind fun q => (f ((some xs, q.1) : Option (List α) × Env ps)).bind fun r => (r.2.1).bind fun xs' => (setAt xss j xs').bind fun xss' => some (r.1, y.set (some xss') (κ.put r.2.2 q.2))) h fun j =>
    Mo.rd fun xss => Mo.op fun xs => Mo.bd (g := fun as s => (f ((some xs, as) : Option (List α) × Env ps)).bind fun r => (r.2.1).bind fun xs' => (setAt xss j xs').bind fun xss' => some (r.1, y.set (some xss') (κ.put r.2.2 s))) k fun as => Mo.op fun r => Mo.op fun _ => Mo.op fun _ => Mo.putst
end
end Sm
namespace Sm
open PySem PySem.Spec L2
open Enc (enc)
theorem dq_t4 {K : Fr} {G : Hp} {v : V} {α β γ δ : Type} [Enc α] [Enc β] [Enc γ] [Enc δ] {x : T4 α β γ δ} (h : Dq K G v (enc x)) : ∃ p a b c d, v = .ref p ∧ SqT K G p [a, b, c, d] ∧ Dq K G a (enc x.a) ∧ Dq K G b (enc x.b) ∧ Dq K G c (enc x.c) ∧ Dq K G d (enc x.d) := by
  have h' : Dq K G v (.tuple [enc x.a, enc x.b, enc x.c, enc x.d]) := h
  cases h' with
  | tup h k =>
    cases k with
    | cons k1 k =>
      cases k with
      | cons k2 k =>
        cases k with
        | cons k3 k =>
          cases k with
          | cons k4 k => cases k; exact ⟨_, _, _, _, _, rfl, h, k1, k2, k3, k4⟩
def join4 {α β γ δ : Type} (x : α × β) (y : γ × δ) : Option (T4 α β γ δ) := some ⟨x.1, x.2, y.1, y.2⟩
def listQ {α : Type} (x : T4 α α α α) : Option (List α) := some [x.a, x.b, x.c, x.d]
/-- the places of a list of four, of three -/
structure L4 (α : Type) where
  (a b c d : α)
structure L3 (α : Type) where
  (a b c : α)
instance {α : Type} [Enc α] : Enc (L4 α) := ⟨fun x => .list [enc x.a, enc x.b, enc x.c, enc x.d]⟩
instance {α : Type} [Enc α] : Enc (L3 α) := ⟨fun x => .list [enc x.a, enc x.b, enc x.c]⟩
/-- None or a value -/
instance {α : Type} [Enc α] : Enc (Option α) := ⟨fun x => match x with | none => .none | some x => enc x⟩
instance {α : Type} [Enc α] [Lay α] : Lay (Option α) := ⟨Lay.dep α, fun x => match x with
  | none => by show PyData.canLay0 .none = true; simp [PyData.canLay0]
  | some x => Lay.lay x, fun x => match x with
  | none => by show PyData.depth .none ≤ _; simp [PyData.depth]
  | some x => Lay.dle x⟩
instance {α : Type} [Enc α] [PureE α] : PureE (Option α) := ⟨PureE.hold α, fun h x => match x with
  | none => rfl
  | some x => PureE.pu h x⟩
noncomputable def sortI : List Int → Option (List Int) := (Seal fun (xs : List Int) => some (xs.mergeSort fun x y => decide (x ≤ y))).1
theorem sortI_eq (xs : List Int) : sortI xs = some (xs.mergeSort fun x y => decide (x ≤ y)) := by unfold sortI; rw [(Seal _).2]
theorem sortI_perm (xs : List Int) : ∃ ys, sortI xs = some ys ∧ ys.Perm xs ∧ ys.Pairwise (· ≤ ·) := by
  refine ⟨_, sortI_eq xs, List.mergeSort_perm _ _, ?_⟩
  have := List.pairwise_mergeSort (le := fun (x y : Int) => decide (x ≤ y)) (fun x y z h1 h2 => by simp only [decide_eq_true_eq] at *; omega) (fun x y => by simp only [Bool.or_eq_true, decide_eq_true_eq]; omega) xs
  exact this.imp fun h => of_decide_eq_true h
section
variable {X : Cx} {αs : List Type} {Γ Γ1 Γ2 Γ' Γt : RTs X.K αs} {α β γ δ ρ : Type} {e a b c d tg iter : Expr} {pos p : Pos}
theorem XE.quad [Enc α] [Enc β] [Enc γ] [Enc δ] {ma : M αs α} {mb : M αs β} {mc : M αs γ} {md : M αs δ} {k : Nat} (ha : XE X Γ a (RT.dat X.K α) ma) (hb : XE X Γ b (RT.dat X.K β) mb) (hc : XE X Γ c (RT.dat X.K γ) mc) (hd : XE X Γ d (RT.dat X.K δ) md)
    (hp : PA X [a, b, c, d] (tCons (wE X a) (tCons (wE X b) (tCons (wE X c) (tCons (wE X d) tNil)))) := by exact pa_cons pe_w (pa_cons pe_w (pa_cons pe_w (pa_cons pe_w pa_nil (star_cons rfl)) (star_cons rfl)) (star_cons rfl)) (star_cons rfl)) : XE X Γ (.Tuple [a, b, c, d] k pos) (RT.dat X.K (T4 α β γ δ)) (m2 join4 (m2 Sm.pair ma mb) (m2 Sm.pair mc md)) := by
  intro C s σ G H o k z s' hm Q q
  obtain ⟨p1, s2, p2, h1, h2, h3⟩ := m2E hm
  obtain ⟨x, s1, y, h11, h12, e1⟩ := m2E h1
  obtain ⟨t, s3, w, h21, h22, e2⟩ := m2E h2
  cases e1
  cases e2
  cases h3
  refine wE_of (pe_tup hp) ?_
  refine ha C s σ G H o k x s1 h11 _ fun v1 G1 H1 o1 B1 k1 g1 kp1 r1 t1 => ?_
  refine hb C s1 σ G1 H1 o1 k1 y s2 h12 _ fun v2 G2 H2 o2 B2 k2 g2 kp2 r2 t2 => ?_
  refine hc C s2 σ G2 H2 o2 k2 t s3 h21 _ fun v3 G3 H3 o3 B3 k3 g3 kp3 r3 t3 => ?_
  refine hd C s3 σ G3 H3 o3 k3 w s' h22 _ fun v4 G4 H4 o4 B4 k4 g4 kp4 r4 t4 => ?_
  refine ⟨show 4 ≤ sizeLine by decide, fun p hp => ?_⟩
  have al := Al.kn k4.gh (o := .tup [v1, v2, v3, v4]) hp
  have d1 : Dq X.K G1 v1 (enc x) := r1
  have d2 : Dq X.K G2 v2 (enc y) := r2
  have d3 : Dq X.K G3 v3 (enc t) := r3
  have d4 : Dq X.K G4 v4 (enc w) := r4
  exact q (.ref p) _ _ o4 (fun _ => False) (k4.al al) ((((g1.trans g2).trans g3).trans g4).trans al.g) (((kp1.trans kp2).trans kp3).trans kp4)
    (show Dq X.K _ _ (.tuple [enc x, enc y, enc t, enc w]) from .tup (SqT.of upd_same) (.cons (dq_mono (((g2.trans g3).trans g4).trans al.g) d1) (.cons (dq_mono ((g3.trans g4).trans al.g) d2) (.cons (dq_mono (g4.trans al.g) d3) (.cons (dq_mono al.g d4) .nil))))) tmp0
theorem src_tup {K : Fr} [Enc α] {G : Hp} {p : Addr} {vs : List V} {xs : List α} (hp : SqT K G p vs) (h : All2 (fun v x => Dq K G v (enc x)) vs xs) : Src G (Itt K p) (RT.dat K α) xs := by
  refine ⟨fun i y H hy e => ?_, fun H e => ⟨vs, e.t hp, by rw [h.len]; exact Nat.le_refl _⟩, fun i y G2 H x H' hy e e2 yl => ?_⟩
  · obtain ⟨v, h1, _⟩ := h.get hy
    exact ⟨vs, v, e.t hp, h1⟩
  · obtain ⟨rfl, yl⟩ := yl
    obtain ⟨v, h1, h2⟩ := h.get hy
    have := yl vs (e2.t (e.t hp))
    rw [h1] at this; cases this
    exact ⟨G2, .refl e2, dq_mono e h2⟩
theorem XI.quad [Enc α] {ma : M αs (T4 α α α α)} (ha : XE X Γ iter (RT.dat X.K (T4 α α α α)) ma) : XI X Γ tg iter (RT.dat X.K α) (m1 listQ ma) := by
  intro C s σ G H o k xs s' hm Rw q
  obtain ⟨x, h1, h2⟩ := m1E hm
  cases h2
  refine wI_of (pi_tup pe_w) ?_
  refine ha C s σ G H o k x s' h1 _ fun v G1 H1 o1 B k1 g1 kp r t => ?_
  obtain ⟨p, v1, v2, v3, v4, rfl, hp, d1, d2, d3, d4⟩ := dq_t4 (show Dq X.K G1 v (enc x) from r)
  exact ⟨p, rfl, ⟨_, k1.gh.t hp⟩, q _ G1 H1 o1 k1 g1 kp (src_tup hp ⟨d1, d2, d3, d4, trivial⟩)⟩
/-- the same value, otherwise read -/
theorem XE.coe [Enc α] [Enc β] {f : α → Option β} {ma : M αs α} (hf : ∀ {x y}, f x = some y → enc x = enc y) (ha : XE X Γ e (RT.dat X.K α) ma) : XE X Γ e (RT.dat X.K β) (m1 f ma) := by
  intro C s σ G H o k z s' hm Q q
  obtain ⟨x, h1, h2⟩ := m1E hm
  refine ha C s σ G H o k x s' h1 _ fun v G1 H1 o1 B k1 g1 kp r t => q v G1 H1 o1 B k1 g1 kp ?_ t
  have : Dq X.K G1 v (enc x) := r
  rw [hf h2] at this
  exact this
theorem XE.sortedI {ma : M αs (List Int)} (hg : Gl X "sorted") (hm : X.mg "sorted" = none) (ha : XE X Γ a (RT.dat X.K (List Int)) ma)
    (he : starEach [a] X.env = [(false, eval a X.env)] := by exact star1 rfl) : XE X Γ (.Call (.Name "sorted" p) [a] [] pos) (RT.own X.K Int) (m1 sortI ma) := by
  refine .un (r := fun v H Q => rSortedI X.K [v] H Q) (pe_callB cr_sortedI hg hm (by decide +kernel) (pa_cons pe_w pa_nil he) (he := he)) ha rfl fun G H v x z Q e hx hz q => ?_
  obtain ⟨p, vs, rfl, hp, k⟩ := dq_list hx
  obtain ⟨ys, y1, y2, y3⟩ := sortI_perm x
  rw [y1] at hz; cases hz
  have ev : vs = x.map V.int := by
    have : ∀ {vs : List V} {xs : List Int}, All2 (fun v x => Dq X.K G v (enc x)) vs xs → vs = xs.map V.int := by
      intro vs xs
      induction xs generalizing vs with
      | nil => intro h; cases vs with
        | nil => rfl
        | cons _ _ => exact (show False from h).elim
      | cons y xs ih => intro h; cases vs with
        | nil => exact (show False from h).elim
        | cons v vs => rw [List.map_cons, ← ih h.2, dq_int h.1]
    exact this k
  refine ⟨p, x, rfl, SqL.of (by rw [← ev]; exact e _ _ hp), fun us l h1 h2 h3 => ?_⟩
  have : us = z := (h1.trans y2.symm).eq_of_pairwise (fun _ _ _ _ h1 h2 => Int.le_antisymm h1 h2) h2 y3
  subst this
  refine newl e (vs := us.map V.int) ?_ q l h3
  have : ∀ us : List Int, All2 (fun v x => Dq X.K G v (enc x)) (us.map V.int) us := fun us => by
    induction us with
    | nil => exact trivial
    | cons u us ih => exact ⟨.int u, ih⟩
  exact this us
/-- is None -/
class NotNone (α : Type) [Enc α] : Prop where
  no : ∀ {K : Fr} {G : Hp} {v : V} {x : α}, Dq K G v (enc x) → v ≠ V.non
instance : NotNone Int := ⟨fun h => by cases dq_int h; exact fun e => by cases e⟩
instance [Enc α] : NotNone (List α) := ⟨fun h => by obtain ⟨p, vs, rfl, _, _⟩ := dq_list h; exact fun e => by cases e⟩
instance [Enc α] [Enc β] : NotNone (α × β) := ⟨fun h => by obtain ⟨p, a, b, rfl, _⟩ := dq_pair h; exact fun e => by cases e⟩
variable {n1 n2 n3 n4 : Str} {x y z t : Var αs α} {q1 q2 q3 q4 : Pos} {kk : Nat}
instance {x y z t : Var αs α} : MoF (fun (w : L4 α) (s : Env αs) => t.set (some w.d) (z.set (some w.c) (y.set (some w.b) (x.set (some w.a) s)))) := ⟨fun _ h => Le.set t _ (Le.set z _ (Le.set y _ (Le.set x _ h)))⟩
instance {x y z : Var αs α} : MoF (fun (w : L3 α) (s : Env αs) => z.set (some w.c) (y.set (some w.b) (x.set (some w.a) s))) := ⟨fun _ h => Le.set z _ (Le.set y _ (Le.set x _ h))⟩
end
end Sm
namespace Sm
open PySem PySem.Spec L2
open Enc (enc)
def mTake {αs : List Type} {α : Type} (x : Var αs α) : M αs α := fun s => (x.get s).bind fun v => some (v, x.set none s)
section
variable {X : Cx} {αs : List Type} {Γ : RTs X.K αs} {α β ρ : Type} {pos : Pos} {n : Str}
theorem XE.take [Enc α] [PureE α] {x : Var αs (List α)} (hpe : PE X (.Name n pos) (tVar x.idx)) (hr : x.rt Γ = RT.own X.K α) : XE X Γ (.Name n pos) (RT.own X.K α) (mTake x) := by
  intro C s σ G H o k z s' hm Q q
  obtain ⟨y, e1, e2⟩ := bindE hm
  cases e2
  obtain ⟨v, e, r⟩ := k.sl _ x z e1
  rw [hr] at r
  obtain ⟨k2, tB⟩ := k.kill0 x
  refine wE_of hpe ⟨v, e, q v G H _ (fun a => o a = some x.idx) k2 (Ex.refl _) ?_ r (tB _ fun _ h => h)⟩
  refine Var.split x (fun hf => ?_) fun β w hw hf => Var.get_ne x w _ _ hw
  rw [hr] at hf
  cases hf
instance {x : Var αs α} : Mo (mTake x) := Mo.rd fun _ => Mo.st
theorem SX.take {ω : Type} {s : Env αs} {o : Option ω} {x : Var αs α} {Φ : α → Env αs → Option ω → Prop} {v : α} (h0 : x.get s = some v) (h : Φ v (x.set none s) o) : SX (mTake x) s o Φ := fun w e => ⟨v, _, o, by unfold mTake; rw [h0]; rfl, h, e⟩
end
section
variable {X : Cx} {αs : List Type} {Γ : RTs X.K αs} {α β γ ρ ω : Type} {e e2 e3 : Expr} {pos : Pos} {n n2 n3 : Str} {P : Pk X.K αs ρ}
/-- x, y, z = e, e2, e3 -/
def sPar3 (x : Var αs α) (y : Var αs β) (z : Var αs γ) (m : M αs α) (l : M αs β) (r : M αs γ) : MS αs ρ := fun s => (m s).bind fun p => (l p.2).bind fun q => (r q.2).bind fun t => some (.nx, z.set (some t.1) (y.set (some q.1) (x.set (some p.1) t.2)))
instance {x : Var αs α} {y : Var αs β} {z : Var αs γ} {m : M αs α} {l : M αs β} {r : M αs γ} [h : Mo m] [k : Mo l] [i : Mo r] : Mo (sPar3 x y z m l r : MS αs ρ) :=
  Mo.bd (g := fun a s => (l s).bind fun q => (r q.2).bind fun t => some (Ctl.nx, z.set (some t.1) (y.set (some q.1) (x.set (some a) t.2)))) h fun a => Mo.bd (g := fun b s => (r s).bind fun t => some (Ctl.nx, z.set (some t.1) (y.set (some b) (x.set (some a) t.2)))) k fun b => Mo.bd (g := fun c s => some (Ctl.nx, z.set (some c) (y.set (some b) (x.set (some a) s)))) i fun c => ⟨fun l e => by cases e; exact ⟨_, rfl, Le.set z _ (Le.set y _ (Le.set x _ l))⟩⟩
end
end Sm
namespace Sm
open PySem PySem.Spec L2
open Enc (enc)
noncomputable def sOpen {αs : List Type} {α ρ : Type} (x : Var αs (List (List α))) (y : Var αs (List α)) (mi : M αs Int) (m : Int → MS αs ρ) : MS αs ρ := fun s => (x.get s).bind fun _ => (mi s).bind fun p => (x.get p.2).bind fun xss => (Sm.idx xss p.1).bind fun row => m p.1 (y.set (some row) p.2)
noncomputable def sClose {αs : List Type} {α ρ : Type} (x : Var αs (List (List α))) (y : Var αs (List α)) (j : Int) : MS αs ρ := fun s => (x.get s).bind fun xss => (y.get s).bind fun row => (setAt xss j row).bind fun xss' => some (.nx, x.set (some xss') (y.set none s))
section
variable {X : Cx} {αs : List Type} {Γ Γ2 : RTs X.K αs} {α β ρ : Type} {i e e2 : Expr} {sts : List Stmt} {pos pos' pn q3 : Pos} {n n' : Str} {P : Pk X.K αs ρ}
instance {x : Var αs (List (List α))} {y : Var αs (List α)} {mi : M αs Int} {m : Int → MS αs ρ} [h : Mo mi] [k : ∀ j, Mo (m j)] : Mo (sOpen x y mi m) :=
  Mo.rd fun _ => Mo.bd (g := fun j s => (x.get s).bind fun xss => (Sm.idx xss j).bind fun row => m j (y.set (some row) s)) h fun j => Mo.rd fun xss => Mo.op fun row => ⟨fun l e => (k j).mo (Le.set y _ l) e⟩
instance {x : Var αs (List (List α))} {y : Var αs (List α)} {j : Int} : Mo (sClose x y j : MS αs ρ) := Mo.rd fun xss => Mo.rd fun row => Mo.op fun xss' => ⟨fun l e => by cases e; exact ⟨_, rfl, Le.set x _ (Le.set y _ l)⟩⟩
variable {ω : Type} {s : Env αs} {o : Option ω} {Ψ : Ctl ρ → Env αs → Option ω → Prop}
theorem SX.cls {x : Var αs (List (List α))} {y : Var αs (List α)} {j : Int} {xss : List (List α)} {row : List α} (h0 : x.get s = some xss) (h1 : y.get s = some row) (h : ∃ k, o = (setAt xss j row).bind k ∧ ∀ xss', Ψ .nx (x.set (some xss') (y.set none s)) (k xss')) : SX (sClose x y j) s o Ψ := fun w e => by
  obtain ⟨k, rfl, h2⟩ := h
  obtain ⟨xss', e1, e2⟩ := bindE e
  refine ⟨.nx, _, k xss', ?_, h2 xss', e2⟩
  unfold sClose
  rw [h0]
  show (y.get s).bind _ = _
  rw [h1]
  show (setAt xss j row).bind _ = _
  rw [e1]; rfl
end
end Sm
namespace Sm
open PySem PySem.Spec L2
open Enc (enc)
theorem Le.c {α : Type} {r : List Type} {a b : Option α} {q s : Env r} (h : a = none ∨ a = b) (k : Le q s) : Le (αs := α :: r) (a, q) (b, s) := ⟨h, k⟩
theorem Le.n {q s : Env []} : Le (αs := []) q s := trivial
def mPE {αs : List Type} {α β : Type} (x : Var αs α) (m : M αs β) : M αs (α × β) := fun s => (x.get s).bind fun _ => (m s).bind fun p => (x.get p.2).bind fun g => some ((g, p.1), p.2)
section
variable {αs : List Type} {α β ω : Type} {s : Env αs} {o : Option ω}
instance {x : Var αs α} {m : M αs β} [h : Mo m] : Mo (mPE x m) := Mo.rd fun _ => Mo.bd (g := fun y s => (x.get s).bind fun g => some ((g, y), s)) h fun y => Mo.rd fun g => ⟨fun l e => by cases e; exact ⟨_, rfl, l⟩⟩
end
end Sm
namespace Sm
open PySem PySem.Spec L2
open Enc (enc)
def sPick {αs : List Type} {α β γ ρ : Type} (a : Var αs α) (b : Var αs β) (y : Var αs γ) : MS αs ρ := fun s => (a.get s).bind fun _ => (b.get s).bind fun _ => some (.nx, y.set none s)
end Sm
namespace Sm
open PySem PySem.Spec L2
open Enc (enc)
section
variable {X : Cx} {αs : List Type} {Γ Γ1 Γ2 : RTs X.K αs} {α β ρ : Type} {a b e e2 : Expr} {pos : Pos}
instance {a : Var αs α} {b : Var αs β} {γ : Type} {y : Var αs γ} : Mo (sPick a b y : MS αs ρ) := Mo.rd fun _ => Mo.rd fun _ => ⟨fun l e => by cases e; exact ⟨_, rfl, Le.set y _ l⟩⟩
end
end Sm
namespace Sm
open PySem PySem.Spec L2
open Enc (enc)
section
variable {X : Cx} {αs : List Type} {Γ Γ1 Γ2 : RTs X.K αs} {α β ρ : Type} {e e2 : Expr} {n : Str} {pos pn apos cpos : Pos} {P : Pk X.K αs ρ}
/-- e is a list: where it stands and what stands in it -/
def XH (X : Cx) {αs : List Type} (Γ : RTs X.K αs) {α : Type} [Enc α] [PureE α] (e : Expr) (m : M αs (List α)) : Prop :=
  ∀ (C : C0) (s : Env αs) (σ : L2.St) (G H : Hp) (o : Addr → Option Nat), Ok C Γ s σ G H o → ∀ (z : List α) (s' : Env αs), m s = some (z, s') → ∀ Q : V → Hp → Prop,
    (∀ (p : Addr) (vs : List V) (G' H' : Hp) (o' : Addr → Option Nat), Ok C Γ s' σ G' H' o' → Ex G G' → Kp Γ s s' → H' p = some (.lst vs) → All2 (fun v x => Dq X.K G' v (enc x)) vs z → Q (.ref p) H') → wE X e σ H Q
theorem XH.of [Enc α] [PureE α] {m : M αs (List α)} (h : XE X Γ e (RT.dat X.K (List α)) m) : XH X Γ e m := by
  intro C s σ G H o k z s' hm Q q
  refine h C s σ G H o k z s' hm _ fun w G1 H1 o1 B k1 g1 kp1 r1 t1 => ?_
  obtain ⟨pb, ws, rfl, hb, hw⟩ := dq_list r1
  exact q pb ws G1 H1 o1 k1 g1 kp1 (k1.gh _ _ hb) hw
theorem XH.borrow [Enc α] [PureE α] {m : M αs (List α)} {γ : Type} (x : Var αs γ) (h : XH X (lend x Γ) e m) (hh : PureE.hold α = false := by rfl) : XH X Γ e m := by
  intro C s σ G H o k z s' hm Q q
  obtain ⟨C', G1, o1, k1, e1, back⟩ := k.borrow x
  refine h C' s σ G1 H o1 k1 z s' hm Q fun p vs G' H' o' k' e' kp h1 h2 => ?_
  obtain ⟨G2, o2, k2, e2, ei, kp2, tb⟩ := back s' G' H' o' k' e' kp
  exact q p vs G2 H' o2 k2 e2 kp2 h1 (h2.imp fun _ x z => dq_pure ei (PureE.pu hh x) z)
end
end Sm
namespace Sm
open PySem PySem.Spec L2
open Enc (enc)
theorem All2.at_ {α β : Type} {P : α → β → Prop} : ∀ {as : List α} {bs : List β} {a : α}, All2 P as bs → a ∈ as → ∃ b, P a b
  | a :: as, b :: bs, x, h, hx => by
    rcases List.mem_cons.mp hx with rfl | hx
    · exact ⟨b, h.1⟩
    · exact All2.at_ h.2 hx
  | a :: as, [], x, h, hx => by cases h
  | [], _, x, _, hx => by cases hx
end Sm
namespace Sm
open PySem PySem.Spec L2
open Enc (enc)
end Sm
namespace Sm
open PySem PySem.Spec L2
open Enc (enc)
structure Tp (α : Type) where
  l : List α
  deriving DecidableEq
theorem pureDs_all {α : Type} [Enc α] [PureE α] (h : PureE.hold α = false) : ∀ xs : List α, pureDs (xs.map enc) = true
  | [] => rfl
  | x :: xs => by
    rw [List.map_cons]
    simp [pureDs, PureE.pu h x, pureDs_all h xs]
section
variable {α : Type} [Enc α]
instance : Enc (Tp α) := ⟨fun x => .tuple (x.l.map enc)⟩
instance [PureE α] : PureE (Tp α) := ⟨PureE.hold α, fun h x => by
  show pureD (.tuple (x.l.map enc)) = true
  simp [pureD, pureDs_all h]⟩
instance [Lay α] : Lay (Tp α) := ⟨Lay.dep α + 1, fun x => by
  show PyData.canLay0 (.tuple (x.l.map enc)) = true
  simp only [PyData.canLay0]; exact lay_all x.l, fun x => by
  have := dep_all x.l
  show PyData.depth (.tuple (x.l.map enc)) ≤ _
  simp only [PyData.depth]; omega⟩
instance [DecidableEq α] [EqE α] : EqE (Tp α) := ⟨fun x y => by
  show PyData.eqv (.tuple (x.l.map enc)) (.tuple (y.l.map enc)) = _
  simp only [PyData.eqv]
  rw [eqv_all]
  obtain ⟨x⟩ := x
  obtain ⟨y⟩ := y
  simp⟩
theorem dq_tp_of {K : Fr} {G : Hp} {p : Addr} {vs : List V} {x : List α} (h : SqT K G p vs) (k : All2 (fun v x => Dq K G v (enc x)) vs x) : Dq K G (.ref p) (enc (Tp.mk x)) := Dq.tup h (dqAll_all2.mpr k)
end
section
variable {X : Cx} {αs : List Type} {Γ : RTs X.K αs} {α β : Type} {a b c tg iter : Expr} {pos p p2 : Pos}
/-- a new tuple, known from here on -/
theorem newt [Enc α] {G H : Hp} {vs : List V} {x : List α} {Q : VK} (e : Ex G H) (h : All2 (fun v x => Dq X.K G v (enc x)) vs x)
    (q : ∀ w G' H' B, Al G H G' H' → (RT.dat X.K (Tp α)).rel G' H' w (Tp.mk x) B → NewB G H G' H' B → Q w H') : ∀ l, H l = none → Q (.ref l) (upd H l (.tup vs)) := fun l hl => by
  have al := Al.kn e (o := .tup vs) hl
  exact q _ _ _ (fun _ => False) al (dq_tp_of (SqT.of upd_same) (h.imp fun _ _ z => dq_mono al.g z)) newB0
end
end Sm
namespace Sm
open PySem PySem.Spec L2
open Enc (enc)
mutual
def nk : PyData → NestedKey
  | .int i => .num i
  | .str x => .text x
  | .tuple ds => .tup (nks ds)
  | _ => .none
def nks : List PyData → List NestedKey
  | [] => []
  | d :: ds => nk d :: nks ds
end
mutual
def keyD : PyData → Bool
  | .int _ => true
  | .str _ => true
  | .none => true
  | .tuple ds => keyDs ds
  | _ => false
def keyDs : List PyData → Bool
  | [] => true
  | d :: ds => keyD d && keyDs ds
end
section
variable {X : Cx} {pins : List (Addr × Obj)} {σ : L2.St} {H : Hp} {s : Shared}
mutual
theorem nested_is (I : Inv X pins σ H s) : ∀ {v : V} {d : PyData} {u : Value}, Dq X.K H v d → keyD d = true → RelV v u → NestedIs s.heap (nk d) u
  | _, _, _, .non, _, r => by cases r; exact .none
  | _, _, _, .bl b, h, _ => by simp [keyD] at h
  | _, _, _, .int i, _, r => by obtain ⟨t, rfl⟩ := r; exact .int i t
  | _, _, _, .str x, _, r => by obtain ⟨t, rfl⟩ := r; exact .text x t
  | _, _, _, .lst _ _, h, _ => by simp [keyD] at h
  | _, _, _, .tup h1 k, h, r => by
    cases r
    obtain ⟨its, rv, ⟨o, g1, g2, n, g3⟩, _⟩ := I.tuple h1
    exact .tup g1 g2 g3 (by simpa using nested_all I k (by simpa [keyD] using h) rv)
theorem nested_all (I : Inv X pins σ H s) : ∀ {vs : List V} {ds : List PyData} {us : List Value}, DqAll X.K H vs ds → keyDs ds = true → Vals vs us → NestedAll s.heap (nks ds) us
  | _, _, _, .nil, _, .nil => .nil
  | _, _, _, .cons a b, h, .cons r t => by
    simp [keyDs] at h
    exact .cons (nested_is I a h.1 r) (nested_all I b h.2 t)
end
end
/-- what may stand in a key -/
class KeyP (α : Type) [Enc α] where
  dp : Nat
  ok : ∀ x : α, keyD (enc x) = true
  dle : ∀ x : α, (nk (enc x)).depth ≤ dp
  inj : ∀ x y : α, nk (enc x) = nk (enc y) → x = y
instance : KeyP Int := ⟨0, fun x => by show keyD (.int x) = true; simp [keyD], fun x => by show (nk (.int x)).depth ≤ 0; simp [nk, NestedKey.depth], fun x y h => by
  have h : nk (.int x) = nk (.int y) := h
  simpa [nk] using h⟩
instance {α β : Type} [Enc α] [Enc β] [KeyP α] [KeyP β] : KeyP (α × β) := ⟨KeyP.dp α + KeyP.dp β + 1, fun x => by
  show keyD (.tuple [enc x.1, enc x.2]) = true
  simp [keyD, keyDs, KeyP.ok], fun x => by
  have := KeyP.dle x.1
  have := KeyP.dle x.2
  show (nk (.tuple [enc x.1, enc x.2])).depth ≤ _
  simp only [nk, nks, NestedKey.depth, NestedKey.depthAll]; omega, fun x y h => by
  have h : nk (.tuple [enc x.1, enc x.2]) = nk (.tuple [enc y.1, enc y.2]) := h
  simp [nk, nks] at h
  exact Prod.ext (KeyP.inj _ _ h.1) (KeyP.inj _ _ h.2)⟩
theorem keyDs_all {α : Type} [Enc α] [KeyP α] : ∀ xs : List α, keyDs (xs.map enc) = true
  | [] => by simp [keyDs]
  | x :: xs => by simp [keyDs, KeyP.ok x, keyDs_all xs]
theorem nks_dep {α : Type} [Enc α] [KeyP α] : ∀ xs : List α, NestedKey.depthAll (nks (xs.map enc)) ≤ KeyP.dp α
  | [] => by simp [nks, NestedKey.depthAll]
  | x :: xs => by
    have := nks_dep xs
    have := KeyP.dle x
    simp only [List.map_cons, nks, NestedKey.depthAll]; omega
theorem nks_inj {α : Type} [Enc α] [KeyP α] : ∀ xs ys : List α, nks (xs.map enc) = nks (ys.map enc) → xs = ys
  | [], [], _ => rfl
  | [], _ :: _, h => by simp [nks] at h
  | _ :: _, [], h => by simp [nks] at h
  | x :: xs, y :: ys, h => by
    simp [nks] at h
    rw [KeyP.inj x y h.1, nks_inj xs ys h.2]
instance {α : Type} [Enc α] [KeyP α] : KeyP (Tp α) := ⟨KeyP.dp α + 1, fun x => by
  show keyD (.tuple (x.l.map enc)) = true
  simp [keyD, keyDs_all], fun x => by
  have := nks_dep x.l
  show (nk (.tuple (x.l.map enc))).depth ≤ _
  simp only [nk, NestedKey.depth]; omega, fun x y h => by
  have h : nk (.tuple (x.l.map enc)) = nk (.tuple (y.l.map enc)) := h
  simp [nk] at h
  obtain ⟨x⟩ := x
  obtain ⟨y⟩ := y
  exact congrArg Tp.mk (nks_inj _ _ h)⟩
/-- a key is a tuple -/
class KeyT (α : Type) [Enc α] : Prop where
  tup : ∀ x : α, ∃ ds, enc x = .tuple ds
instance {α β : Type} [Enc α] [Enc β] : KeyT (α × β) := ⟨fun x => ⟨_, rfl⟩⟩
instance {α : Type} [Enc α] : KeyT (Tp α) := ⟨fun x => ⟨_, rfl⟩⟩
theorem dq_ref {K : Fr} {G : Hp} {v : V} {α : Type} [Enc α] [KeyT α] {x : α} (h : Dq K G v (enc x)) : ∃ a, v = .ref a := by
  obtain ⟨ds, e⟩ := KeyT.tup x
  rw [e] at h
  cases h
  exact ⟨_, rfl⟩
abbrev DX := List (NestedKey × Addr × Value)
def DictOb (w : World) (d : Addr) (o : Obj) (xs : DX) : Prop :=
  (d == sysModules) = false ∧ xs.length ≤ 1000000 ∧ o.ExactDict ∧ ∃ es ep, o.data = .dict es ep ∧ es.toList = xs.map (fun x => (⟨x.1.hash w, .ref x.2.1, x.2.2⟩ : DictEntry)) ∧ (xs.map (·.1)).Nodup
def dO (d : Addr) (o : Obj) : HO := .ext fun h => h.get? d = some o
section
variable {K : Fr} {G H : Hp} {κ ν : Type} [Enc κ] [Enc ν]
/-- an entry -/
def Ent (K : Fr) (G : Hp) (y : NestedKey × Addr × Value) (p : κ × ν) : Prop := y.1 = nk (enc p.1) ∧ Dq K G (.ref y.2.1) (enc p.1) ∧ ∃ v, RelV v y.2.2 ∧ Dq K G v (enc p.2)
theorem Ent.mono {y : NestedKey × Addr × Value} {p : κ × ν} (e : Ex G H) (h : Ent K G y p) : Ent K H y p := ⟨h.1, dq_mono e h.2.1, let ⟨v, a, b⟩ := h.2.2; ⟨v, a, dq_mono e b⟩⟩
def RT.dict (w : World) (K : Fr) (κ ν : Type) [Enc κ] [Enc ν] [PureE κ] [PureE ν] : RT K (List (κ × ν)) where
  rel := fun G H v x A => ∃ d o xs, v = .ref d ∧ A d ∧ H d = some (dO d o) ∧ DictOb w d o xs ∧ All2 (Ent K G) xs x
  shr := fun G v x => ∃ d o xs, v = .ref d ∧ G d = some (dO d o) ∧ DictOb w d o xs ∧ All2 (Ent K G) xs x
  fix := false
  hold := PureE.hold κ || PureE.hold ν
  grow := fun ⟨d, o, xs, e, a, h, b, k⟩ g f => ⟨d, o, xs, e, a, (f d a).trans h, b, k.imp fun _ _ z => z.mono g⟩
  view := fun ⟨d, o, xs, e, a, h, b, k⟩ g f => ⟨d, o, xs, e, f d _ a h, b, k.imp fun _ _ z => z.mono g⟩
  smono := fun ⟨d, o, xs, e, h, b, k⟩ g => ⟨d, o, xs, e, g d _ h, b, k.imp fun _ _ z => z.mono g⟩
  wid := fun ⟨d, o, xs, e, a, h, b, k⟩ f => ⟨d, o, xs, e, f d a, h, b, k⟩
  ok := .inr ⟨rfl, fun hh _ _ _ _ _ _ ⟨d, o, xs, e, a, h, b, k⟩ f => ⟨d, o, xs, e, a, h, b, k.imp fun _ p z => ⟨z.1, dq_pure f (PureE.pu (or_no hh).1 p.1) z.2.1, let ⟨v, a, c⟩ := z.2.2; ⟨v, a, dq_pure f (PureE.pu (or_no hh).2 p.2) c⟩⟩⟩⟩
end
section
variable {X : Cx} {pins : List (Addr × Obj)} {σ : L2.St} {G H : Hp} {s : Shared} {κ ν : Type} [Enc κ] [Enc ν]
theorem dO_get {d : Addr} {o : Obj} (I : Inv X pins σ H s) (h : H d = some (dO d o)) : s.heap.get? d = some o := (show ObjOk X.prog X.w H s.heap d (.ext fun h => h.get? d = some o) from I.hok d _ h).1
theorem dO_ok {P : Program} {w : World} {H : Hp} {h : Heap} {d : Addr} {o : Obj} (e : h.get? d = some o) : ObjOk P w H h d (dO d o) := ⟨e, ⟨o, e⟩, fun _ _ a b => b o a⟩
theorem key_at [KeyP κ] (I : Inv X pins σ H s) {p : κ} {a : Addr} (hd : KeyP.dp κ ≤ 8) (h : Dq X.K H (.ref a) (enc p)) : (nestedKind X.prog X.w).is s.heap (nk (enc p)) a :=
  ⟨nested_is I h (KeyP.ok p) rfl, Nat.le_trans (KeyP.dle p) hd⟩
end
section
variable {κ ν : Type} [DecidableEq κ]
def dgetL : List (κ × ν) → κ → Option ν
  | [], _ => none
  | p :: r, k => if p.1 = k then some p.2 else dgetL r k
def dputL (d : List (κ × ν)) (k : κ) (v : ν) : List (κ × ν) := if (dgetL d k).isSome then d.map (fun p => if p.1 = k then (p.1, v) else p) else d ++ [(k, v)]
noncomputable def dput : List (κ × ν) → κ → ν → Option (List (κ × ν)) := (Seal fun (d : List (κ × ν)) (k : κ) (v : ν) => if d.length < 1000000 then some (dputL d k v) else none).1
end
end Sm
namespace Sm
open PySem PySem.Spec L2
open Enc (enc)
def done1 {κ ν : Type} (k : κ) (v : ν) : Option (List (κ × ν)) := some [(k, v)]
def newDict : Obj := { cls := .type "dict", data := .dict #[] }
theorem ext_none {G H : Hp} {a : Addr} (e : Ex G H) (h : H a = none) : G a = none := by
  cases z : G a with
  | none => rfl
  | some u => rw [e a u z] at h; cases h
section
variable {X : Cx} {αs : List Type} {Γ Γ1 : RTs X.K αs} {α κ ν ρ : Type} [Enc κ] [Enc ν] [PureE κ] [PureE ν] [KeyP κ] [KeyT κ] [DecidableEq κ] {a b c d e f tg iter : Expr} {pos pos' pn p apos cpos : Pos} {P : Pk X.K αs ρ} {n : Str}
/-- a dict of one pair -/
theorem pe_done (hu : X.A.units + 65 < cLine) : PE X (.Dict [some a] [b] pos) (fun σ H Q => ∀ p, H p = none → (p == sysModules) = false → wE X a σ (upd H p (dO p newDict)) fun v H1 => wE X b σ H1 fun u H2 => H2 p = some (dO p newDict) ∧ ∃ (pa : κ) (ka : Addr), v = .ref ka ∧ KeyP.dp κ ≤ 8 ∧ Dq X.K H2 (.ref ka) (enc pa) ∧
    ∀ o uv, RelV u uv → DictOb X.w p o [(nk (enc pa), ka, uv)] → Q (.ref p) (upd H2 p (dO p o))) := by
  refine ⟨fun pins s σ H Q I h => ?_⟩
  have hs : (s.heap.objs.size == sysModules) = false := beq_eq_false_iff_ne.mpr (Nat.ne_of_gt I.big)
  have h0 := h _ (I.hok.fresh (Nat.le_refl _)) hs
  have I1 := I.laid (a := s.heap.objs.size) (o := dO s.heap.objs.size newDict) (h' := s.heap.push newDict) (t' := s.toks) (fun _ _ q => Heap.get?_push_of_some _ q) (Nat.le_refl _) (dO_ok (Heap.get?_push_size _ rfl))
  have hroom : (nestedKind X.prog X.w).room X.A := show X.A.units + 8 < cLine by omega
  have hsh : (evalEachOpt [some a] X.env).zip ((evalEach [b] X.env).map fun v => do let x ← v; standAt pos; pure x) = (pairTrees [some a] [b] X.env pos).map fun p => (some p.1, p.2) := by first | rfl | simp [pairTrees, evalEachOpt, evalEach]
  rw [arm_eval_Dict, hsh, dictDisplay_pairs _ (by first | (intro z; cases z) | simp [pairTrees, evalEachOpt, evalEach]) (by first | decide | simp [pairTrees, evalEachOpt, evalEach])]
  have PP : PPs X pos [some a] [b] [(wE X a, wE X b)] := pps_cons pe_w pe_w pps_nil
  refine wpAny_bind (wpAny_standAt (wpAny_bind (wpAny_subDictH (knd := nestedKind X.prog X.w) (Q := fun d s' => wpAny (model X.prog X.w) X.A (pure (Value.ref d)) (EP X pins σ Q) X.xe s') hroom (by first | decide | simp [pairTrees, evalEachOpt, evalEach]) ?_)))
  refine L2.thn (PP.run pins _ σ _ (fun ps H2 => ∃ v u, ps = [(v, u)] ∧ H2 s.heap.objs.size = some (dO s.heap.objs.size newDict) ∧ ∃ (pa : κ) (ka : Addr), v = .ref ka ∧ KeyP.dp κ ≤ 8 ∧ Dq X.K H2 (.ref ka) (enc pa) ∧
    ∀ o uv, RelV u uv → DictOb X.w s.heap.objs.size o [(nk (enc pa), ka, uv)] → Q (.ref s.heap.objs.size) (upd H2 s.heap.objs.size (dO s.heap.objs.size o))) I1 ?_) ?_
  · exact wE_mono h0 fun v H1 h1 => wE_mono h1 fun u H2 ⟨e, pa, ka, q⟩ => ⟨v, u, rfl, e, pa, ka, q⟩
  · rintro vs s2 ⟨ps, H2, I2, rel, v, u, rfl, e2, pa, ka, rfl, hdp, hk, q⟩
    cases rel with
    | @cons x y xs ys h1 h2 =>
      cases h2
      obtain ⟨y1, y2⟩ := y
      obtain ⟨r1, r2⟩ := h1
      obtain rfl : y1 = Value.ref ka := r1
      have hkey := key_at I2 hdp hk
      refine ⟨[(nk (enc pa), ka, y2)], ⟨rfl, rfl, hkey, trivial⟩, ?_, fun h' tk hm hsb => wpAny_pure ?_⟩
      · exact ⟨newDict, #[], 0, dO_get I2 e2, ⟨rfl, rfl, rfl⟩, rfl, rfl, fun _ hx => (by cases hx), List.nodup_nil⟩
      · have hm' : h'.DictOfH (nestedKind X.prog X.w) s.heap.objs.size [(nk (enc pa), ka, y2)] := hm
        obtain ⟨o, es, ep, g1, g2, g3, g4, _, g6⟩ := hm'
        have D : DictOb X.w s.heap.objs.size o [(nk (enc pa), ka, y2)] := ⟨hs, by simp, g2, es, ep, g3, g4, g6⟩
        exact ⟨.ref s.heap.objs.size, _, d_write I2 (by rw [e2]; exact True.intro) hsb ⟨o, g1⟩ (dO_ok g1), rfl, q o y2 r2 D⟩
theorem XE.done {ma : M αs κ} {mb : M αs ν} (ha : XE X Γ a (RT.dat X.K κ) ma) (hb : XE X Γ b (RT.dat X.K ν) mb) (hu : X.A.units + 65 < cLine) (hd : KeyP.dp κ ≤ 8 := by decide) :
    XE X Γ (.Dict [some a] [b] pos) (RT.dict X.w X.K κ ν) (m2 done1 ma mb) := by
  intro C s σ G H o k z s' hm Q q
  obtain ⟨x, s1, y, h1, h2, h3⟩ := m2E hm
  cases h3
  refine wE_of (pe_done (κ := κ) hu) fun p hp hs => ?_
  have k0 := k.al (Al.my (o := dO p newDict) k.gh hp)
  have op : o p = none := by
    cases z : o p with
    | none => rfl
    | some i =>
      obtain ⟨_, ⟨ob, h, _⟩, _⟩ := k.own p (by rw [z]; simp)
      rw [hp] at h; cases h
  have gp : G p = none := ext_none k.gh hp
  refine ha _ s σ G _ o k0.re x s1 h1 _ fun v G1 H1 o1 B1 k1 g1 kp1 r1 t1 => ?_
  refine hb _ s1 σ G1 H1 o1 k1 y s' h2 _ fun u G2 H2 o2 B2 k2 g2 kp2 r2 t2 => ?_
  have r1 : Dq X.K G1 v (enc x) := r1
  obtain ⟨ka, rfl⟩ := dq_ref r1
  have hp2 : H2 p = some (dO p newDict) := k2.fr p _ (fun z => z op) upd_same
  have gp2 : G2 p = none := k2.new p (fun z => z op) (by show upd H p _ p ≠ none; rw [upd_same]; simp) gp
  have op2 : o2 p = none := by
    cases z : o2 p with
    | none => rfl
    | some i =>
      rcases (k2.own p (by rw [z]; simp)).2.2 with w | w
      · exact absurd op w
      · have w : upd H p (dO p newDict) p = none := w
        rw [upd_same] at w; cases w
  refine ⟨hp2, x, ka, rfl, hd, dq_mono (g2.trans k2.gh) r1, fun ob uv ru D => ?_⟩
  have kb := k0.back k2
  have fp : C.M0 p ∨ C.H0 p = none := by
    right
    cases z : C.H0 p with
    | none => rfl
    | some u => exact absurd hp (k.dom p (by rw [z]; simp))
  have kt := kb.touch (u := dO p ob) gp2 op2 fp fun w e => by rw [hp2] at e; cases e; rfl
  exact q (.ref p) G2 _ o2 (fun a => a = p) kt (g1.trans g2) (kp1.trans kp2) ⟨p, ob, _, rfl, rfl, upd_same, D, ⟨rfl, dq_mono g2 r1, u, ru, r2⟩, trivial⟩ fun a ha => by
    subst ha
    exact ⟨op2, gp2, ⟨_, upd_same, rfl⟩, fp⟩
noncomputable def sSetD (x : Var αs (List (κ × ν))) (mi : M αs κ) (me : M αs ν) : MS αs ρ := fun s => (me s).bind fun p => (x.get p.2).bind fun _ => (mi p.2).bind fun q => (x.get q.2).bind fun d => (dput d q.1 p.1).bind fun d' => some (.nx, x.set (some d') q.2)
end
end Sm
namespace Sm
open PySem PySem.Spec L2
open Enc (enc)
end Sm
namespace Sm
open PySem PySem.Spec L2
open Enc (enc)
open PyProof.Rows (itemOrd)
open PySem.W (dataLt dataLt_int dataLt_list dataLt_tuple dataLt_all_yes dataLt_all_no keyToksAll toks_all_cons)
/-- what is ordered -/
class OrdE (α : Type) [Enc α] where
  lt : α → α → Bool
  al : ∀ x y : α, PySem.W.alike (enc x) (enc y) = true
  nn : ∀ x : α, enc x ≠ .none
  is : ∀ x y : α, dataLt (enc x) (enc y) = lt x y
instance : OrdE Int := ⟨fun x y => decide (x < y), fun x y => by
  show PySem.W.alike (.int x) (.int y) = true
  simp only [PySem.W.alike], fun x h => (by cases h), fun x y => dataLt_int x y⟩
section
variable {α β : Type} [Enc α] [Enc β] [DecidableEq α] [DecidableEq β] [EqE α] [EqE β] [OrdE α] [OrdE β]
def ltL : List α → List α → Bool
  | [], [] => false
  | [], _ :: _ => true
  | _ :: _, [] => false
  | x :: xs, y :: ys => if x = y then ltL xs ys else OrdE.lt x y
theorem al_all : ∀ xs ys : List α, PySem.W.alikeAll (xs.map enc) (ys.map enc) = true
  | [], _ => by simp [PySem.W.alikeAll]
  | _ :: _, [] => by simp [PySem.W.alikeAll]
  | x :: xs, y :: ys => by simp [PySem.W.alikeAll, OrdE.al x y, al_all xs ys]
theorem ltL_is : ∀ xs ys : List α, PyProof.Rows.lexLt itemOrd (keyToksAll (xs.map enc)) (keyToksAll (ys.map enc)) = ltL xs ys
  | [], [] => PyProof.Rows.lex_irrefl _
  | [], y :: ys => by
    have h : PyProof.Rows.lexLt itemOrd (keyToksAll []) (keyToksAll (enc y :: ys.map enc)) = true := by
      rw [toks_all_cons]
      simp only [keyToksAll]
      rw [PyProof.Rows.lex_diff (O := itemOrd) (by simp)]
      rfl
    exact h
  | x :: xs, [] => by
    have h : PyProof.Rows.lexLt itemOrd (keyToksAll (enc x :: xs.map enc)) (keyToksAll []) = false := by
      rw [toks_all_cons]
      simp only [keyToksAll]
      rw [PyProof.Rows.lex_diff (O := itemOrd) (by simp)]
      rfl
    exact h
  | x :: xs, y :: ys => by
    have e := EqE.eqv x y
    by_cases h : x = y
    · rw [decide_eq_true h] at e
      exact ((dataLt_all_yes (OrdE.al x y) e).trans (ltL_is xs ys)).trans (by rw [ltL, if_pos h])
    · rw [decide_eq_false h] at e
      exact ((dataLt_all_no (OrdE.al x y) e).trans (OrdE.is x y)).trans (by rw [ltL, if_neg h])
instance : OrdE (List α) := ⟨ltL, fun xs ys => by
  show PySem.W.alike (.list (xs.map enc)) (.list (ys.map enc)) = true
  simp only [PySem.W.alike]; exact al_all xs ys, fun x h => (by cases h), fun xs ys => (dataLt_list _ _).trans (ltL_is xs ys)⟩
instance : OrdE (Tp α) := ⟨fun x y => ltL x.l y.l, fun x y => by
  show PySem.W.alike (.tuple (x.l.map enc)) (.tuple (y.l.map enc)) = true
  simp only [PySem.W.alike]; exact al_all x.l y.l, fun x h => (by cases h), fun x y => (dataLt_tuple _ _).trans (ltL_is x.l y.l)⟩
def ltP (x y : α × β) : Bool := if x.1 = y.1 then OrdE.lt x.2 y.2 else OrdE.lt x.1 y.1
theorem lt_irr (x : α) : OrdE.lt x x = false := by rw [← OrdE.is]; exact PyProof.Rows.lex_irrefl _
instance : OrdE (α × β) := ⟨ltP, fun x y => by
  show PySem.W.alike (.tuple [enc x.1, enc x.2]) (.tuple [enc y.1, enc y.2]) = true
  simp [PySem.W.alike, PySem.W.alikeAll, OrdE.al], fun x h => (by cases h), fun x y => by
  refine (dataLt_tuple [enc x.1, enc x.2] [enc y.1, enc y.2]).trans ?_
  have e1 := EqE.eqv x.1 y.1
  have e2 := EqE.eqv x.2 y.2
  unfold ltP
  by_cases h : x.1 = y.1
  · rw [decide_eq_true h] at e1
    rw [if_pos h, dataLt_all_yes (OrdE.al _ _) e1]
    by_cases k : x.2 = y.2
    · rw [decide_eq_true k] at e2
      rw [dataLt_all_yes (OrdE.al _ _) e2, k, lt_irr]
      exact PyProof.Rows.lex_irrefl _
    · rw [decide_eq_false k] at e2
      exact (dataLt_all_no (OrdE.al _ _) e2).trans (OrdE.is _ _)
  · rw [decide_eq_false h] at e1
    rw [if_neg h]
    exact (dataLt_all_no (OrdE.al _ _) e1).trans (OrdE.is _ _)⟩
end
end Sm
namespace Sm
open PySem PySem.Spec L2
open Enc (enc)
section
variable {X : Cx} {αs : List Type} {Γ : RTs X.K αs} {α β γ κ ν ρ ω : Type} {pos : Pos} {n : Str} [DecidableEq κ]
theorem XE.takeR {R : RT X.K α} {x : Var αs α} (hpe : PE X (.Name n pos) (tVar x.idx)) (hr : x.rt Γ = R) (hf : R.fix = false := by rfl) : XE X Γ (.Name n pos) R (mTake x) := by
  intro C s σ G H o k z s' hm Q q
  obtain ⟨y, e1, e2⟩ := bindE hm
  cases e2
  obtain ⟨v, e, r⟩ := k.sl _ x z e1
  rw [hr] at r
  obtain ⟨k2, tB⟩ := k.kill0 x
  refine wE_of hpe ⟨v, e, q v G H _ (fun a => o a = some x.idx) k2 (Ex.refl _) ?_ r (tB _ fun _ h => h)⟩
  refine Var.split x (fun h => ?_) fun β w hw h => Var.get_ne x w _ _ hw
  rw [hr, hf] at h
  cases h
instance {x : Var αs (List (κ × ν))} {mi : M αs κ} {me : M αs ν} [h : Mo mi] [k : Mo me] : Mo (sSetD x mi me : MS αs ρ) :=
  Mo.bd (g := fun v s => (x.get s).bind fun _ => (mi s).bind fun q => (x.get q.2).bind fun d => (dput d q.1 v).bind fun d' => some ((Ctl.nx : Ctl ρ), x.set (some d') q.2)) k fun v =>
    Mo.rd fun _ => Mo.bd (g := fun i s => (x.get s).bind fun d => (dput d i v).bind fun d' => some ((Ctl.nx : Ctl ρ), x.set (some d') s)) h fun _ => Mo.rd fun _ => Mo.op fun _ => Mo.st
/-- three names, set by any three parts -/
theorem get3_in {x : Var αs α} {y : Var αs β} {z : Var αs γ} {a : Option α} {b : Option β} {c : Option γ} {t : Env αs} {δ : Type} (u : Var αs δ) {P : ∀ δ, Var αs δ → Option δ → Prop} (hx : P α x a) (hy : P β y b) (hz : P γ z c) (hxy : x.idx ≠ y.idx) (hxz : x.idx ≠ z.idx) (hyz : y.idx ≠ z.idx) (h : u.idx ∈ [x.idx, y.idx, z.idx]) :
    P δ u (u.get (z.set c (y.set b (x.set a t)))) := by
  refine Var.split z (P := fun δ u => u.idx ∈ [x.idx, y.idx, z.idx] → P δ u (u.get (z.set c (y.set b (x.set a t))))) (fun _ => by rw [Var.get_set]; exact hz) (fun δ u hu h => ?_) δ u h
  rw [Var.get_ne z u _ _ hu]
  refine Var.split y (P := fun δ u => u.idx ≠ z.idx → u.idx ∈ [x.idx, y.idx, z.idx] → P δ u (u.get (y.set b (x.set a t)))) (fun _ _ => by rw [Var.get_set]; exact hy) (fun δ u hu hz h => ?_) δ u hu h
  rw [Var.get_ne y u _ _ hu]
  refine Var.split x (P := fun δ u => u.idx ≠ y.idx → u.idx ≠ z.idx → u.idx ∈ [x.idx, y.idx, z.idx] → P δ u (u.get (x.set a t))) (fun _ _ _ => by rw [Var.get_set]; exact hx) (fun δ u h1 h2 h3 h => ?_) δ u hu hz h
  simp at h
  rcases h with h | h | h
  · exact absurd h h1
  · exact absurd h h2
  · exact absurd h h3
theorem get3_out {x : Var αs α} {y : Var αs β} {z : Var αs γ} {a : Option α} {b : Option β} {c : Option γ} {t : Env αs} {δ : Type} (u : Var αs δ) (h : u.idx ∉ [x.idx, y.idx, z.idx]) : u.get (z.set c (y.set b (x.set a t))) = u.get t := by
  simp at h
  rw [Var.get_ne z u _ _ h.2.2, Var.get_ne y u _ _ h.2.1, Var.get_ne x u _ _ h.1]
theorem set3_set {x : Var αs α} {y : Var αs β} {z : Var αs γ} {a a' : Option α} {b b' : Option β} {c c' : Option γ} {t : Env αs} (hxy : x.idx ≠ y.idx) (hxz : x.idx ≠ z.idx) (hyz : y.idx ≠ z.idx) : z.set c (y.set b (x.set a (z.set c' (y.set b' (x.set a' t))))) = z.set c (y.set b (x.set a t)) := by
  rw [Var.set_comm x z _ _ _ hxz, Var.set_comm y z _ _ _ hyz, Var.set_set, Var.set_comm x y _ _ _ hxy, Var.set_set, Var.set_set]
def Own.three {δ : Type} (x : Var αs α) (y : Var αs β) (z : Var αs γ) (p : δ → α) (q : δ → β) (r : δ → γ) (hxy : x.idx ≠ y.idx) (hxz : x.idx ≠ z.idx) (hyz : y.idx ≠ z.idx) : Own αs [x.idx, y.idx, z.idx] (fun (w : δ) s => z.set (some (r w)) (y.set (some (q w)) (x.set (some (p w)) s))) where
  wp := fun s => z.set none (y.set none (x.set none s))
  rs := fun s s2 => z.set (z.get s) (y.set (y.get s) (x.set (x.get s) s2))
  wp_in := fun _ u s h => get3_in u (P := fun _ _ o => o = none) rfl rfl rfl hxy hxz hyz h
  wp_out := fun _ u s h => get3_out u h
  f_wp := fun w s => set3_set hxy hxz hyz
  f_out := fun _ u w s h => get3_out u h
  rs_in := fun _ u s s2 h => get3_in u (P := fun _ v o => o = v.get s) rfl rfl rfl hxy hxz hyz h
  rs_out := fun _ u s s2 h => get3_out u h
instance {x : Var αs α} {y : Var αs β} {z : Var αs γ} : MoF (fun (w : α × (β × γ)) (s : Env αs) => z.set (some w.2.2) (y.set (some w.2.1) (x.set (some w.1) s))) := ⟨fun _ h => Le.set z _ (Le.set y _ (Le.set x _ h))⟩
instance {δ : Type} {x : Var αs α} {y : Var αs β} {z : Var αs γ} {p : δ → α} {q : δ → β} {r : δ → γ} {e1 e2 e3} : MoR (Own.three x y z p q r e1 e2 e3).rs := ⟨fun h k => Le.set' z (Le.get' z h) (Le.set' y (Le.get' y h) (Le.set' x (Le.get' x h) k))⟩
end
end Sm
namespace Sm
open PySem PySem.Spec L2
open Enc (enc)
section
variable {X : Cx} {αs : List Type} {Γ Γ1 : RTs X.K αs} {α β ρ : Type} {a b e i : Expr} {pos apos cpos p2 pn : Pos} {P : Pk X.K αs ρ} {n : Str}
/-- x[i].clear(), x[i].reverse() -/
noncomputable def sRow (x : Var αs (List (List α))) (mi : M αs Int) (f : List α → List α) : MS αs ρ := fun s => (x.get s).bind fun _ => (mi s).bind fun p => (x.get p.2).bind fun xss => (idx xss p.1).bind fun row => (setAt xss p.1 (f row)).bind fun ys => some (.nx, x.set (some ys) p.2)
/-- x[i].extend(e), e read while x is lent -/
noncomputable def sRowExt (x : Var αs (List (List α))) (mi : M αs Int) (me : M αs (List α)) : MS αs ρ := fun s => (x.get s).bind fun _ => (mi s).bind fun p => (x.get p.2).bind fun xss => (idx xss p.1).bind fun row => (me p.2).bind fun q => (x.get q.2).bind fun _ => (extO row q.1).bind fun row' => (setAt xss p.1 row').bind fun ys => some (.nx, x.set (some ys) q.2)
end
section
variable {αs : List Type} {α ρ ω : Type} {s : Env αs} {o : Option ω} {Ψ : Ctl ρ → Env αs → Option ω → Prop} {x : Var αs (List (List α))}
instance {mi : M αs Int} {f : List α → List α} [h : Mo mi] : Mo (sRow x mi f : MS αs ρ) :=
  Mo.rd fun _ => Mo.bd (g := fun j s => (x.get s).bind fun xss => (idx xss j).bind fun row => (setAt xss j (f row)).bind fun ys => some ((Ctl.nx : Ctl ρ), x.set (some ys) s)) h fun _ => Mo.rd fun _ => Mo.op fun _ => Mo.op fun _ => Mo.st
instance {mi : M αs Int} {me : M αs (List α)} [h : Mo mi] [k : Mo me] : Mo (sRowExt x mi me : MS αs ρ) :=
  Mo.rd fun _ => Mo.bd (g := fun j s => (x.get s).bind fun xss => (idx xss j).bind fun row => (me s).bind fun q => (x.get q.2).bind fun _ => (extO row q.1).bind fun row' => (setAt xss j row').bind fun ys => some ((Ctl.nx : Ctl ρ), x.set (some ys) q.2)) h fun j =>
    Mo.rd fun xss => Mo.op fun row => Mo.bd (g := fun q s => (x.get s).bind fun _ => (extO row q).bind fun row' => (setAt xss j row').bind fun ys => some ((Ctl.nx : Ctl ρ), x.set (some ys) s)) k fun _ => Mo.rd fun _ => Mo.op fun _ => Mo.op fun _ => Mo.st
theorem SX.row {mi : M αs Int} {f : List α → List α} {z : List (List α)} (h0 : x.get s = some z) (h : SX mi s o fun j s1 o1 => ∃ xss, x.get s1 = some xss ∧ ∃ k, o1 = (Sm.idx xss j).bind k ∧ ∀ row, ∃ k2, k row = (setAt xss j (f row)).bind k2 ∧ ∀ ys, Ψ .nx (x.set (some ys) s1) (k2 ys)) : SX (sRow x mi f) s o Ψ := fun w e => by
  obtain ⟨j, s1, o1, h1, ⟨xss, h2, k, rfl, h3⟩, h4⟩ := h w e
  obtain ⟨row, e1, e2⟩ := bindE h4
  obtain ⟨k2, e3, h5⟩ := h3 row
  rw [e3] at e2
  obtain ⟨ys, e4, e5⟩ := bindE e2
  refine ⟨.nx, x.set (some ys) s1, k2 ys, ?_, h5 ys, e5⟩
  unfold sRow
  rw [h0]
  show (mi s).bind _ = _
  rw [h1]
  show (x.get s1).bind _ = _
  rw [h2]
  show (Sm.idx xss j).bind _ = _
  rw [e1]
  show (setAt xss j (f row)).bind _ = _
  rw [e4]; rfl
end
end Sm
namespace Sm
open PySem PySem.Spec L2
open Enc (enc)
section
variable {X : Cx} {αs : List Type} {Γ : RTs X.K αs} {α β γ ρ : Type} {a b c : Expr} {pos p : Pos}
def mCallT2 (f : Env [α, β] → Option (ρ × Env [α, β])) (ma : M αs α) (mb : M αs β) : M αs ρ := fun s => (ma s).bind fun p => (mb p.2).bind fun q => (f ((some p.1, (some q.1, ())) : Option α × (Option β × Unit))).bind fun r => some (r.1, q.2)
end
section
variable {αs : List Type} {α β ρ ω ω' : Type} {s : Env αs} {o : Option ω} {Φ : ρ → Env αs → Option ω → Prop}
instance {f : Env [α, β] → Option (ρ × Env [α, β])} {ma : M αs α} {mb : M αs β} [h : Mo ma] [k : Mo mb] : Mo (mCallT2 f ma mb) := Mo.bd (g := fun a s => (mb s).bind fun q => (f ((some a, (some q.1, ())) : Option α × (Option β × Unit))).bind fun r => some (r.1, q.2)) h fun a => Mo.bd (g := fun b s => (f ((some a, (some b, ())) : Option α × (Option β × Unit))).bind fun r => some (r.1, s)) k fun _ => Mo.op fun _ => Mo.rt
end
end Sm
namespace Sm
open PySem PySem.Spec L2
open Enc (enc)
end Sm
namespace Sm
open PySem PySem.Spec L2
open Enc (enc)
end Sm
namespace Sm
open PySem PySem.Spec L2
open Enc (enc)
open Classical in
noncomputable def ofRaw {α : Type} [Enc α] (r : PyData) : Option α := if h : ∃ x : α, enc x = r then some h.choose else none
theorem ofRaw_enc {α : Type} [Enc α] {x : PyData} {y : α} (h : ofRaw x = some y) : enc x = enc y := by
  unfold ofRaw at h
  split at h
  · rename_i k
    cases h
    exact k.choose_spec.symm
  · cases h
theorem enc_inj {α : Type} [Enc α] [DecidableEq α] [EqE α] {x y : α} (h : enc x = enc y) : x = y := by
  have e := EqE.eqv x y
  have f := EqE.eqv x x
  rw [h] at f
  rw [h, f] at e
  exact of_decide_eq_true (e.symm.trans (decide_eq_true rfl))
theorem ofRaw_at {α : Type} [Enc α] [DecidableEq α] [EqE α] (x : α) : ofRaw (enc x) = some x := by
  unfold ofRaw
  rw [dif_pos ⟨x, rfl⟩]
  exact congrArg some (enc_inj (Exists.choose_spec (p := fun y : α => enc y = enc x) ⟨x, rfl⟩))
end Sm
namespace Sm
open PySem PySem.Spec L2
open Enc (enc)
/-- no more known, and not kept -/
def RT.gone (K : Fr) (α : Type) : RT K α where
  rel := fun _ _ _ _ _ => True
  shr := fun _ _ _ => True
  fix := false
  grow := fun _ _ _ => trivial
  view := fun _ _ _ => trivial
  smono := fun _ _ => trivial
  wid := fun _ _ => trivial
  ok := .inr ⟨rfl, fun _ _ _ _ _ _ _ _ _ => trivial⟩
def Gn {K : Fr} : {αs : List Type} → RTs K αs → RTs K αs → Prop
  | [], _, _ => True
  | α :: _, Γ, Γ' => (Γ'.1 = Γ.1 ∨ Γ'.1 = RT.dead K α ∨ Γ'.1 = RT.gone K α) ∧ Gn Γ.2 Γ'.2
theorem Gn.get {K : Fr} {αs : List Type} {Γ Γ' : RTs K αs} (h : Gn Γ Γ') {α : Type} (x : Var αs α) : x.rt Γ' = x.rt Γ ∨ x.rt Γ' = RT.dead K α ∨ x.rt Γ' = RT.gone K α := by
  induction x with
  | vz => exact h.1
  | vs x ih => exact ih h.2
def Fx {K : Fr} (vs : List Nat) : {αs : List Type} → RTs K αs → RTs K αs → RTs K αs → Nat → Prop
  | [], _, _, _, _ => True
  | _ :: _, Γl, Γt, Γa, i => (Γl.1.fix = false ∨ (Γt.1.fix = true ∧ Γa.1.fix = true ∧ vs.contains i = false)) ∧ Fx vs Γl.2 Γt.2 Γa.2 (i + 1)
theorem Fx.get {K : Fr} {vs : List Nat} : ∀ {αs : List Type} {Γl Γt Γa : RTs K αs} {i : Nat}, Fx vs Γl Γt Γa i → ∀ {α : Type} (x : Var αs α), (x.rt Γl).fix = true → (x.rt Γt).fix = true ∧ (x.rt Γa).fix = true ∧ vs.contains (i + x.idx) = false
  | _, _, _, _, i, h, _, Var.vz, hf => by
    rcases h.1 with e | e
    · exact absurd (hf.symm.trans e) (by simp)
    · exact e
  | _, _, _, _, i, h, _, Var.vs x, hf => by
    have := Fx.get h.2 x hf
    rw [Nat.add_assoc, Nat.add_comm 1] at this
    exact this
end Sm
namespace Sm
open PySem PySem.Spec L2
open Enc (enc)
def toRaw {α : Type} [Enc α] (x : α) : Option PyData := some (enc x)
theorem toRaw_enc {α : Type} [Enc α] {x : α} {y : PyData} (h : toRaw x = some y) : enc x = enc y := by
  cases h
  rfl
noncomputable def ofRawN : PyData → Option Int := ofRaw
theorem ofRawN_enc {x : PyData} {y : Int} (h : ofRawN x = some y) : enc x = enc y := ofRaw_enc h
theorem ofRawN_at (x : Int) : ofRawN (enc x) = some x := ofRaw_at x
end Sm
namespace Sm
open PySem PySem.Spec L2
open Enc (enc)
/-- the dict of an exception that a class of one's own makes: none yet -/
abbrev NoD : Type := {d : Option Addr // d = none}
/-- all forgotten -/
def deads (K : Fr) : (ps : List Type) → RTs K ps
  | [] => ()
  | α :: r => (RT.dead K α, deads K r)
theorem OM.deads {K : Fr} {αs : List Type} : ∀ {ps : List Type} {κ : Ks αs ps} {Γ : RTs K ps}, κ.ixs = [] → OM κ Γ (deads K ps)
  | _, .nil, _, _ => trivial
  | _, .v k, Γ, h => OM.deads (κ := k) (Γ := Γ.2) h
  | _, .m x k, _, h => by cases h
/-- what a def that raises is worth -/
structure Frs (K : Fr) where
  ps : List Type
  Γp : RTs K ps
  f : Env ps → Option (Int × Env ps)
def spR {K : Fr} (cn : Nat → Addr) (F : Frs K) : Sp := fun vs H _ E => ∃ (G : Hp) (o : Addr → Option Nat) (s : Env F.ps) (n : Int) (s' : Env F.ps), Ok (reC G H o) F.Γp s (vs.map some) G H o ∧ F.f s = some (n, s') ∧
  ∀ (d : NoD) (G' H' : Hp) (o' : Addr → Option Nat), Ok (reC G H o) (deads K F.ps) s' (vs.map some) G' H' o' → E (.ref (cn n.toNat)) d.1 H'
section
variable {X : Cx} {W : WX} {cn : Nat → Addr} {αs : List Type} {Γ Γ1 Γ2 : RTs X.K αs} {α β τ : Type} {e a b c ob tg : Expr} {es : List Expr} {pos apos : Pos} {P : Pk X.K αs Int}
/-- an expression that raises -/
def RE (X : Cx) (W : WX) (cn : Nat → Addr) {αs : List Type} (Γ : RTs X.K αs) (e : Expr) (m : M αs Int) : Prop :=
  ∀ (C : C0) (s : Env αs) (σ : L2.St) (G H : Hp) (o : Addr → Option Nat), Ok C Γ s σ G H o → ∀ (n : Int) (s' : Env αs), m s = some (n, s') →
    (∀ (d : NoD) (G' H' : Hp) (o' : Addr → Option Nat), Ok C Γ s' σ G' H' o' → Ex G G' → Kp Γ s s' → W (.ref (cn n.toNat)) d.1 σ H') → ∀ Q : VK, wE X e σ H Q
theorem RE.borrow {m : M αs Int} (x : Var αs α) (h : RE X W cn (lend x Γ) e m) : RE X W cn Γ e m := by
  intro C s σ G H o k n s' hm q Q
  obtain ⟨C', G1, o1, k1, e1, back⟩ := k.borrow x
  refine h C' s σ G1 H o1 k1 n s' hm (fun d G' H' o' k' e' kp => ?_) Q
  obtain ⟨G2, o2, k2, e2, ei, kp2, tb⟩ := back s' G' H' o' k' e' kp
  exact q d G2 H' o2 k2 e2 kp2
/-- a function that raises -/
theorem RE.call {ps : List Type} {Γp : RTs X.K ps} {f : Env ps → Option (Int × Env ps)} (κ : Ks αs ps) {ma : M αs (Env ps)} {fn : Addr} {fd : FuncData} {qs : List Str} {n : Nat} {x : Str} {p : Pos} (tk : Takes X W)
    (F : FnOk X.prog X.w X.K X.mg X.base (L2.CX X.prog X.w) n fn fd qs (spR cn ⟨ps, Γp, f⟩)) (hr : Room n X.A) (hg : Gl X x) (hm : X.mg x = some (.ref fn)) (hk : PySem.W.keepIn X.K (.ref fn) = true) (hb : Binds X.K fd qs []) (ha : XA X Γ (e :: es) κ Γp ma)
    (hv : κ.ixs = [] := by rfl) (hdb : (x == ("__debug__" : Str)) = false := by decide) (he : starEach (e :: es) X.env = (false, eval e X.env) :: starEach es X.env := by exact star_cons rfl) (hpl : (backTo pos (starEach es X.env)).any (·.1) = false := by rfl) :
    RE X W cn Γ (.Call (.Name x p) (e :: es) [] pos) (mCall κ f ma) := by
  intro C s σ G H o k n s' hm' q Q
  obtain ⟨⟨as, s1⟩, e1, e2⟩ := bindE hm'
  obtain ⟨⟨r, as'⟩, e3, e4⟩ := bindE e2
  cases e4
  refine wE_of (pe_callS (hx := fun σ => passAt tk σ) F hr hg hm hk hb pa_w hdb he hpl) ?_
  refine ha C s σ G H o k as s1 e1 _ fun vs G1 H1 o1 k1 g1 kp r1 => ?_
  obtain ⟨oc, k2, back⟩ := k1.call κ (by rw [hv]; exact .nil) (OM.deads hv) r1
  refine ⟨G1, oc, as, _, as', k2, e3, fun d G' H' o' k' => ?_⟩
  obtain ⟨o2, k3, kp3, tB⟩ := back as' G' H' o' k'
  exact q d G' H' o2 k3 (g1.trans k'.g) (kp.trans kp3)
/-- o.m(..), what is raised told at the slots -/
theorem pe_methAt {CX : CXT} {k : Nat} {f C : Addr} {fd : FuncData} {ps : List Str} {sp : Sp} {E : L2.St → XK} {m : Str} {ta : TE} {t : TA} {pl : Sem Bool} (he : PE X ob ta) (c : Cls X.K C) (hm : Meth X.K C m f) (F : FnOk X.prog X.w X.K X.mg X.base CX k f fd ps sp)
    (hr : Room k X.A) (hb : Binds X.K fd ps []) (hx : ∀ σ, PassesAt CX X σ (E σ)) (ha : PA X (e :: es) t)
    (hst : starEach (e :: es) X.env = (false, eval e X.env) :: starEach es X.env := by exact star_cons rfl) (hpl : (backTo pos (starEach es X.env)).any (·.1) = false := by rfl)
    (ht : eval (.Call (.Attribute ob m apos) (e :: es) [] pos) X.env = (do
      let ov ← eval ob X.env
      standAt apos.atName
      let (f, first) ← holding [ov] (getMethod ov m pl)
      callWith pos f first (backTo pos (starEach (e :: es) X.env)) (backToKw pos (keywordEach [] X.env))) := by rfl) :
    PE X (.Call (.Attribute ob m apos) (e :: es) [] pos) (fun σ H Q => ta σ H fun x H1 => ∃ a dx fs, x = .ref a ∧ H1 a = some (.ins C dx fs) ∧ fs.lookup m = none ∧ t σ H1 fun vs H2 => sp (x :: vs) H2 Q (E σ)) := by
  constructor
  intro pins s σ H Q I h
  apply PySem.W.methodCall_KW (pl := pl) _ ht
  apply thn (he.run pins s σ H _ I h)
  rintro u s1 ⟨x, H1, I1, rx, a, dx, fs, ex, ea, l, q⟩
  subst ex
  obtain rfl : u = Value.ref a := rx
  apply getmeth_ok I1 ea c hm l
  apply PySem.W.callWith_K (first := [.ref a]) (h₀ := X.base) I.ok.mod.kin hm.kp _ hst hpl
  apply thn (ha.run pos pins s1 σ H1 _ I1 q)
  rintro us s2 ⟨vs, H2, I2, r, q2⟩
  exact ⟨I2.kIn, run_fnS (us := .ref a :: us) (vs := .ref a :: vs) F hr hb (hx σ) I2 (.cons rfl r) q2⟩
theorem RE.meth {ps : List Type} {Ro : RT X.K τ} {Γp : RTs X.K ps} {f : Env (τ :: ps) → Option (Int × Env (τ :: ps))} (κ : Ks αs ps) {mo : M αs τ} {ma : M αs (Env ps)} {C fn : Addr} {fd : FuncData} {qs : List Str} {k : Nat} {pl : Sem Bool} {mn : Str} (tk : Takes X W)
    (c : Cls X.K C) (hm : Meth X.K C mn fn) (F : FnOk X.prog X.w X.K X.mg X.base (L2.CX X.prog X.w) k fn fd qs (spR cn ⟨τ :: ps, ((Ro, Γp) : RT X.K τ × RTs X.K ps), f⟩)) (hr : Room k X.A) (hb : Binds X.K fd qs [])
    (hf : Ro.fix = true) (hi : InsOf C mn Ro) (ho : XE X Γ ob Ro mo) (ha : XA X Γ (e :: es) κ Γp ma) (hv : κ.ixs = [] := by rfl)
    (hst : starEach (e :: es) X.env = (false, eval e X.env) :: starEach es X.env := by exact star_cons rfl) (hpl : (backTo pos (starEach es X.env)).any (·.1) = false := by rfl)
    (ht : eval (.Call (.Attribute ob mn apos) (e :: es) [] pos) X.env = (do
      let ov ← eval ob X.env
      standAt apos.atName
      let (f, first) ← holding [ov] (getMethod ov mn pl)
      callWith pos f first (backTo pos (starEach (e :: es) X.env)) (backToKw pos (keywordEach [] X.env))) := by rfl) :
    RE X W cn Γ (.Call (.Attribute ob mn apos) (e :: es) [] pos) (mCall (.v κ) f (aV mo ma)) := by
  intro C0 s σ G H o k0 n s' hm' q Q
  obtain ⟨⟨as, s2⟩, e1, e2⟩ := bindE hm'
  obtain ⟨⟨t, s1⟩, e3, e4⟩ := bindE e1
  obtain ⟨⟨as2, s3⟩, e5, e6⟩ := bindE e4
  cases e6
  obtain ⟨⟨r, as'⟩, e7, e8⟩ := bindE e2
  cases e8
  refine wE_of (pe_methAt pe_w c hm F hr hb (fun σ => passAt tk σ) pa_w hst hpl ht) ?_
  refine ho C0 s σ G H o k0 t s1 e3 _ fun v G1 H1 o1 B k1 g1 kp r1 t1 => ?_
  have hs := (cpy_of hf _ _ _ _ _).mp r1
  obtain ⟨a, dx, fs, rfl, ha', hl⟩ := hi _ _ _ hs
  refine ⟨a, dx, fs, rfl, k1.gh _ _ ha', hl, ?_⟩
  refine ha C0 s1 σ G1 H1 o1 k1 as2 _ e5 _ fun vs G2 H2 o2 k2 g2 kp2 r2 => ?_
  have r3 : AOk Γ s3 σ G2 (.v κ) ((Ro, Γp) : RT X.K τ × RTs X.K ps) ((some t, as2) : Option τ × Env ps) (V.ref a :: vs) := ⟨.ref a, vs, rfl, hf, fun y hy => by
    cases hy
    exact Ro.smono hs g2, r2⟩
  obtain ⟨oc, k3, back⟩ := k2.call (.v κ) (by show κ.ixs.Nodup; rw [hv]; exact .nil) (Γp := ((Ro, Γp) : RT X.K τ × RTs X.K ps)) (Γo := deads X.K (τ :: ps)) (OM.deads (κ := .v κ) hv) r3
  refine ⟨G2, oc, _, _, as', k3, e7, fun d G' H' o' k' => ?_⟩
  obtain ⟨o4, k4, kp4, tB⟩ := back as' G' H' o' k'
  exact q d G' H' o4 k4 ((g1.trans g2).trans k'.g) ((kp.trans kp2).trans kp4)
/-- a body that raises within a try: what is caught -/
def TB (X : Cx) (W : WX) (cn : Nat → Addr) {αs : List Type} (Γ Γ1 : RTs X.K αs) (n : Nat) (st : List Stmt) (m : M αs Unit) : Prop :=
  ∀ (C : C0) (s : Env αs) (σ : L2.St) (G H : Hp) (o : Addr → Option Nat), Ok C Γ s σ G H o → ∀ (u : Unit) (s' : Env αs), m s = some (u, s') →
    (∀ (d : NoD) (G' H' : Hp) (o' : Addr → Option Nat), Ok C Γ1 s' σ G' H' o' → W (.ref (cn n)) d.1 σ H') → ∀ D : Ends, wSs X st D σ H
theorem TB.ite {mc : M αs Bool} {m m' : M αs Unit} {n : Nat} {x y : List Stmt} (hc : XT X Γ c mc) (ha : TB X W cn Γ Γ1 n x m) (hb : TB X W cn Γ Γ1 n y m') : TB X W cn Γ Γ1 n [.If c x y pos] (mIte mc m m') := by
  intro C s σ G H o k u s' hm q D
  obtain ⟨⟨t, s1⟩, e1, e2⟩ := bindE hm
  refine wSs_of (pss_one (ps_if pt_w pss_w pss_w)) ?_
  refine hc C s σ G H o k t s1 e1 _ fun G1 H1 o1 k1 g1 kp => ?_
  cases t with
  | true => exact ha C s1 σ G1 H1 o1 k1 u s' e2 q D
  | false => exact hb C s1 σ G1 H1 o1 k1 u s' e2 q D
end
end Sm
namespace Sm
open PySem PySem.Spec L2
open Enc (enc)
end Sm
namespace Sm
open PySem PySem.Spec L2
open Enc (enc)
inductive U where
  | n (i : Int)
  | p (x : Int × Int)
  deriving DecidableEq
instance : Enc U := ⟨fun u => match u with
  | .n i => .int i
  | .p x => .tuple [.int x.1, .int x.2]⟩
theorem enc_n (i : Int) : (enc (U.n i) : PyData) = enc i := rfl
theorem enc_p (x : Int × Int) : (enc (U.p x) : PyData) = enc x := rfl
instance : Lay U := ⟨1, fun u => by
  cases u with
  | n i => rw [enc_n]; exact Lay.lay i
  | p x => rw [enc_p]; exact Lay.lay x, fun u => by
  cases u with
  | n i => rw [enc_n]; exact Nat.le_trans (Lay.dle i) (by decide)
  | p x => rw [enc_p]; exact Lay.dle x⟩
instance : PureE U := ⟨false, fun _ u => by
  cases u with
  | n i => rw [enc_n]; exact PureE.pu rfl i
  | p x => rw [enc_p]; exact PureE.pu rfl x⟩
instance : EqE U := ⟨fun a b => by
  cases a with
  | n i =>
    cases b with
    | n j =>
      rw [enc_n, enc_n, EqE.eqv]
      exact decide_eq_decide.mpr ⟨fun h => by rw [h], fun h => by cases h; rfl⟩
    | p y =>
      show PyData.eqv (.int i) (.tuple [.int y.1, .int y.2]) = _
      simp [PyData.eqv]
  | p x =>
    cases b with
    | n j =>
      show PyData.eqv (.tuple [.int x.1, .int x.2]) (.int j) = _
      simp [PyData.eqv]
    | p y =>
      rw [enc_p, enc_p, EqE.eqv]
      exact decide_eq_decide.mpr ⟨fun h => by rw [h], fun h => by cases h; rfl⟩⟩
theorem All2.map {α β γ : Type} {P : α → β → Prop} {Q : α → γ → Prop} {g : β → γ} (h : ∀ a b, P a b → Q a (g b)) : ∀ {as : List α} {bs : List β}, All2 P as bs → All2 Q as (bs.map g)
  | [], [], _ => trivial
  | _ :: _, _ :: _, k => ⟨h _ _ k.1, All2.map h k.2⟩
end Sm
namespace Sm
open PySem PySem.Spec L2
open Enc (enc)
abbrev Pq := Int × Int
abbrev Trl := List (List Pq × Int)
structure WatchD where
  tr : Option TreeD
  ru : Option RuleD
  tl : Option Trl
  cm : Option (List Pq)
  deriving DecidableEq
def w0 : WatchD := ⟨none, none, none, none⟩
def one1 {α : Type} : Option α → Nat
  | none => 0
  | some _ => 1
def WatchD.cnt (w : WatchD) : Nat := one1 w.tr + one1 w.ru + one1 w.tl + one1 w.cm
/-- what stands under a name of an object -/
def OF {α : Type} (fs : List (Str × V)) (n : Str) (x : Option α) (R : V → α → Prop) : Prop := match x with
  | none => fs.lookup n = none
  | some a => ∃ u, fs.lookup n = some u ∧ R u a
theorem OF.imp {α : Type} {fs : List (Str × V)} {n : Str} {x : Option α} {R S : V → α → Prop} (f : ∀ u a, R u a → S u a) (h : OF fs n x R) : OF fs n x S := by
  cases x with
  | none => exact h
  | some a =>
    obtain ⟨u, e, r⟩ := h
    exact ⟨u, e, f u a r⟩
theorem OF.put {α : Type} {fs : List (Str × V)} {n m : Str} {x : Option α} {R : V → α → Prop} {v : V} (h : OF fs n x R) (ne : ¬ n = m) : OF (putF m v fs) n x R := by
  have e : (putF m v fs).lookup n = fs.lookup n := by rw [lookup_putF, if_neg ne]
  cases x with
  | none => exact e.trans h
  | some a =>
    obtain ⟨u, e1, r⟩ := h
    exact ⟨u, e.trans e1, r⟩
theorem putF_len (f : Str) (v : V) : ∀ fs : List (Str × V), (putF f v fs).length ≤ fs.length + 1
  | [] => Nat.le_refl _
  | (g, x) :: r => by
    unfold putF
    by_cases h : g = f
    · rw [if_pos h]; simp
    · rw [if_neg h]
      have := putF_len f v r
      simp only [List.length_cons]
      omega
theorem putF_len2 (f : Str) (v : V) : ∀ (fs : List (Str × V)) (u : V), fs.lookup f = some u → (putF f v fs).length = fs.length
  | [], u, h => by cases h
  | (g, x) :: r, u, h => by
    unfold putF
    by_cases e : g = f
    · rw [if_pos e]; rfl
    · rw [if_neg e]
      have h' : r.lookup f = some u := by
        have hb : (f == g) = false := beq_eq_false_iff_ne.mpr (Ne.symm e)
        simpa [List.lookup, hb] using h
      simp only [List.length_cons, putF_len2 f v r u h']
/-- the length behind a store -/
theorem OF.len {α : Type} {fs : List (Str × V)} {n : Str} {x : Option α} {R : V → α → Prop} {v : V} {k : Nat} (h : OF fs n x R) (hk : fs.length ≤ k + one1 x) : (putF n v fs).length ≤ k + 1 := by
  cases x with
  | none => exact Nat.le_trans (putF_len n v fs) (Nat.succ_le_succ hk)
  | some a =>
    obtain ⟨u, e, _⟩ := h
    rw [putF_len2 n v fs u e]
    exact hk
/-- what the objects of a watch are -/
structure WC where
  C : Addr
  CT : Addr
  cls : RuleD → Option Addr
structure WaF (K : Fr) (Z : WC) (G H : Hp) (A : Addr → Prop) (p : Addr) (fs : List (Str × V)) (w : WatchD) : Prop where
  len : fs.length ≤ w.cnt
  no : ∀ m : Str, ¬ m = "ground" → ¬ m = "policy" → ¬ m = "trail" → ¬ m = "came" → fs.lookup m = none
  tr : OF fs "ground" w.tr fun u t => (RT.tree K Z.CT).shr G u t
  ru : OF fs "policy" w.ru fun u r => (RT.rule K Z.cls).shr G u r
  tl : OF fs "trail" w.tl fun u l => ∃ a vs, u = .ref a ∧ a ≠ p ∧ A a ∧ H a = some (.lst vs) ∧ All2 (fun v x => Dq K G v (enc x)) vs l
  cm : OF fs "came" w.cm fun u c => Dq K G u (enc c)
def WaR (K : Fr) (Z : WC) (A : Addr → Prop) (G H : Hp) (v : V) (w : WatchD) : Prop := ∃ p dx fs, v = .ref p ∧ A p ∧ H p = some (.ins Z.C dx fs) ∧ WaF K Z G H A p fs w
theorem WaR.mono {K : Fr} {Z : WC} {A B : Addr → Prop} {G G' H H' : Hp} {v : V} {w : WatchD} (f : ∀ a, A a → B a) (g : Ex G G') (h : ∀ a o, A a → H a = some o → H' a = some o) : WaR K Z A G H v w → WaR K Z B G' H' v w := by
  rintro ⟨p, dx, fs, e, a, hp, q⟩
  exact ⟨p, dx, fs, e, f _ a, h _ _ a hp, q.len, q.no, q.tr.imp fun u t r => (RT.tree K Z.CT).smono r g, q.ru.imp fun u t r => (RT.rule K Z.cls).smono r g, q.tl.imp fun u l ⟨a, vs, e, n, o, hh, k⟩ => ⟨a, vs, e, n, f _ o, h _ _ o hh, k.imp fun _ _ z => dq_mono g z⟩, q.cm.imp fun u c r => dq_mono g r⟩
/-- a watch of one's own -/
def RT.wat (K : Fr) (Z : WC) : RT K WatchD where
  rel := fun G H v w A => WaR K Z A G H v w
  shr := fun G v w => WaR K Z (fun _ => True) G G v w
  fix := false
  hold := true
  grow := fun h g f => h.mono (fun _ z => z) g fun a o k e => (f a k).trans e
  view := fun h g f => h.mono (fun _ _ => trivial) g f
  smono := fun h e => h.mono (fun _ z => z) e fun a o _ q => e a o q
  wid := fun h f => h.mono f (Ex.refl _) fun _ _ _ e => e
  ok := .inr ⟨rfl, fun hh => by cases hh⟩
def wCm (w : WatchD) : Option (List Pq) := w.cm
section
variable {X : Cx} {αs : List Type} {Γ Γ1 Γ2 Γ' Γt : RTs X.K αs} {α β γ ρ τ : Type} {e a b c tg iter ob : Expr} {es : List Expr} {pos apos cpos p p1 p2 p3 p4 q1 q2 q3 q4 pn : Pos} {n n1 n2 n3 mn : Str} {P : Pk X.K αs ρ} {Z : WC}
theorem AOk.set {K : Fr} {Γ : RTs K αs} {s : Env αs} {σ : L2.St} {G : Hp} {R : RT K α} {y : Option α} {v : Option V} (x : Var αs α) : ∀ {ps : List Type} {κ : Ks αs ps} {Γp : RTs K ps} {as : Env ps} {vs : List V}, (∀ i ∈ κ.ixs, i ≠ x.idx) → AOk Γ s σ G κ Γp as vs → AOk (x.setR R Γ) (x.set y s) (σ.set x.idx v) G κ Γp as vs
  | _, .nil, _, _, _, _, h => h
  | _, .v k, Γp, as, vs, n, h => by
    obtain ⟨u, r, e, f, g, h⟩ := h
    exact ⟨u, r, e, f, g, AOk.set x (κ := k) n h⟩
  | _, .m z k, Γp, as, vs, n, h => by
    obtain ⟨u, r, e, S, f, hσ, hg, h⟩ := h
    have ne : z.idx ≠ x.idx := n z.idx List.mem_cons_self
    refine ⟨u, r, e, ?_, ?_, ?_, ?_, AOk.set x (κ := k) (fun i hi => n i (List.mem_cons_of_mem _ hi)) h⟩
    · rw [Var.rt_ne x z _ _ ne]; exact S
    · rw [Var.rt_ne x z _ _ ne]; exact f
    · rw [List.getElem?_set_ne (Ne.symm ne)]; exact hσ
    · rw [Var.get_ne x z _ _ ne]; exact hg
def aNew {ps : List Type} (x : Var αs τ) (x0 : τ) (ma : M αs (Env ps)) : M αs (Env (τ :: ps)) := fun s => (ma s).bind fun p => some ((some x0, p.1), x.set (some x0) p.2)
end
section
variable {αs : List Type} {τ ω : Type} {s : Env αs} {o : Option ω}
instance {ps : List Type} {x : Var αs τ} {x0 : τ} {ma : M αs (Env ps)} [h : Mo ma] : Mo (aNew x x0 ma) := Mo.bd (γ := Env (τ :: ps)) (g := fun as s => some (((some x0, as) : Option τ × Env ps), x.set (some x0) s)) h fun as => ⟨fun l e => by cases e; exact ⟨_, rfl, Le.set x _ l⟩⟩
end
end Sm
namespace Sm
open PySem PySem.Spec PyProof.Rows L2
open Enc (enc)
/-- a def whose promise may speak of how great the heap is when it is called -/
structure FnN (P : Program) (w : World) (K : PySem.W.Frag) (mg : Str → Option Value) (base : Heap) (CX : CXT) (k : Nat) (f : Addr) (fd : FuncData) (ps : List Str) (sp : Nat → Sp) : Prop where
  len : ∀ n vs H Q E, sp n vs H Q E → vs.length = ps.length
  run : ∀ (A : Around) (outer : List PySem.Env) (s : Shared) (H : Hp) (args : Args) (us : List Value) (vs : List V) (Q : VK) (E : XK), Room k A → Env0 P w K mg base A outer s H → BindsTo s fd args (ps.zip us) → Vals vs us → sp s.heap.objs.size vs H Q E →
    codeAny (model P w) A (.call (.ref f) args) (CR CX outer P w H s Q E) s
/-- iter(self.came) is handed out -/
def spIt (K : PySem.W.Frag) (C : Addr) (n : Nat) : Sp := fun vs H Q _ => ∃ p dx fs l zs, vs = [.ref p] ∧ H p = some (.ins C dx fs) ∧ fs.lookup ("came" : Str) = some (.ref l) ∧ SqL K H l zs ∧ ∀ it, H it = none → n ≤ it → Q (.ref it) (upd H it (ItO l it 0))
/-- what the walk asks of a class that is walked over -/
structure IterC (X : Cx) (C f : Addr) (fd : FuncData) (k : Nat) : Prop where
  it : PySem.W.findIn X.K (.ref C) "__iter__" = some (some (.ref f))
  itF : PySem.W.isFn X.K (.ref f) = true
  F : FnN X.prog X.w X.K X.mg X.base CX0 k f fd ["self"] (spIt X.K C)
  b : Binds X.K fd ["self"] []
def iOwn (K : PySem.W.Frag) (C : Addr) (te : TE) : TI := fun σ H R => te σ H fun x H1 => ∃ p dx fs l zs, x = .ref p ∧ H1 p = some (.ins C dx fs) ∧ fs.lookup ("came" : Str) = some (.ref l) ∧ SqL K H1 l zs ∧ R (Itl K l) H1
section
variable {X : Cx} {tg e : Expr} {te : TE} {C f : Addr} {fd : FuncData} {k : Nat}
/-- the call of __iter__ -/
theorem run_iter {pins : List (Addr × Obj)} {σ : L2.St} {H : Hp} {s : Shared} (T : IterC X C f fd k) (A1 : Around) (hA : L2.Sub X k A1) (I : Inv X pins σ H s) {p dx l : Addr} {fs : List (Str × V)} {zs : List V} (hp : H p = some (.ins C dx fs)) (hl : fs.lookup ("came" : Str) = some (.ref l)) (hz : SqL X.K H l zs)
    {Q : Value → Shared → Prop} (q : ∀ (it : Addr) (s' : Shared), Inv X pins σ H s' → FpOk X pins H it → s'.heap.IsListIter it l 0 → Q (.ref it) s') : wpAny (model X.prog X.w) A1 (pyIter (.ref p)) Q X.xe s := by
  obtain ⟨mA, J, _⟩ := ins_get I.hok hp
  obtain ⟨od, J, _⟩ := J.look
  obtain ⟨m, hF⟩ := I.fr
  refine PySem.W.owit_iter hF I.ok.mod.kin J T.it T.itF ?_
  have e0 : Env0 X.prog X.w X.K X.mg X.base A1 X.stack s H := by
    have e := I.env0
    exact ⟨by rw [hA.fr]; exact e.frames, e.mod, e.bs, e.bsz, e.funs, e.frf, e.hok, e.bare⟩
  have hsp : spIt X.K C s.heap.objs.size [.ref p] H (fun v H' => ∃ it, v = .ref it ∧ H it = none ∧ s.heap.objs.size ≤ it ∧ H' = upd H it (ItO l it 0)) E0 := ⟨p, dx, fs, l, zs, rfl, hp, hl, hz, fun it h1 h2 => ⟨it, rfl, h1, h2, rfl⟩⟩
  have r2 : Vals [V.ref p] [Value.ref p] := .cons rfl .nil
  refine wpAny_call (codeAny_mono (T.F.run A1 X.stack s H ⟨[.ref p], []⟩ [.ref p] [.ref p] _ E0 hA.room e0 (by
    have := T.b s [.ref p] I.kIn rfl
    simpa using this) r2 hsp) fun r s' hq => ?_)
  cases r with
  | error er => exact passE (CX := CX0) pins σ H s er s' I hq
  | ok fl =>
    cases fl with
    | next => exact False.elim hq
    | brk => exact False.elim hq
    | cont => exact False.elim hq
    | ret u =>
      obtain ⟨v, H', I', rv, it, rfl, h1, h2, rfl⟩ := I.after hq
      cases rv
      have hi : upd H it (ItO l it 0) it = some (ItO l it 0) := upd_same
      have eo := itO_get I' hi
      have st : s'.heap.IsListIter it l 0 := ⟨_, eo, rfl, rfl⟩
      have hi' := hi
      unfold ItO at hi'
      have I2 := ItX.inv_drop I' hi'
      have fp := ItX.inv_fp I' hi (Nat.le_trans I.sz h2)
      rw [ItX.dropH_upd h1] at I2 fp
      unfold PySem.W.OwitIt
      exact wpAny_specialOf (name := Str.ofString "__next__") st.typeIs slot_listiter_next.lookup (q it s' I2 fp st)
theorem pi_own (he : PE X e te) (T : IterC X C f fd k) (hr : Room k X.A) : PI X tg e (iOwn X.K C te) := by
  refine ⟨fun pins s σ H R I h => ?_⟩
  refine thn (he.run pins s σ H _ I h) fun u s1 ⟨x, H1, I1, r1, p, dx, fs, l, zs, ex, hp, hl, hz, q⟩ => ?_
  subst ex
  cases r1
  refine run_iter T X.A ⟨hr, rfl⟩ I1 hp hl hz fun it s' I2 fp st => ?_
  refine ⟨it, [it], _, _, H1, rfl, I2, turn_list l it, st, fun b hb => ?_, q⟩
  have e : b = it := by simpa using hb
  rw [e]
  exact fp
end
section
variable {X : Cx} {αs : List Type} {Γ : RTs X.K αs} {tg iter : Expr} {Z : WC} {f : Addr} {fd : FuncData} {k : Nat}
/-- over a watch -/
theorem XI.own {m : M αs WatchD} (T : IterC X Z.C f fd k) (hr : Room k X.A) (h : XE X Γ iter (RT.sh (RT.wat X.K Z)) m) : XI X Γ tg iter (RT.dat X.K Pq) (m1 wCm m) := by
  intro C0 s σ G H o k xs s' hm Rw q
  obtain ⟨w, h1, h2⟩ := m1E hm
  refine wI_of (pi_own pe_w T hr) ?_
  refine h C0 s σ G H o k w s' h1 _ fun v G1 H1 o1 B k1 g1 kp r1 t1 => ?_
  obtain ⟨p, dx, fs, rfl, _, hp, kf⟩ := r1
  have hc := kf.cm
  rw [show w.cm = some xs from h2] at hc
  obtain ⟨u, h3, h4⟩ := hc
  obtain ⟨l, vs, rfl, hl, ha⟩ := dq_list h4
  exact ⟨p, dx, fs, l, vs, rfl, k1.gh _ _ hp, h3, SqL.of (k1.gh _ _ hl), q _ G1 H1 o1 k1 g1 kp (src_list hl ha)⟩
end
end Sm
namespace Sm
open PySem PySem.Spec PyProof.Rows L2
open Enc (enc)
/-- one written value, one by a keyword -/
def g11 {α : Type} : List α → List α → List α
  | [u], [w] => [u, w]
  | _, _ => []
end Sm
namespace Sm
open PySem PySem.Spec PyProof.Rows L2
open Enc (enc)
section
variable {X : Cx} {W : WX} {cn : Nat → Addr} {αs : List Type} {Γ Γ1 Γ2 : RTs X.K αs} {α β τ ρ : Type} {e a b c ob tg : Expr} {es : List Expr} {pos apos kpos p1 p2 p3 p4 p5 p6 q1 : Pos} {mn kn n : Str} {P : Pk X.K αs ρ} {Z : WC}
def TBn (X : Cx) (W : WX) (cn : Nat → Addr) {αs : List Type} (Γ Γ1 : RTs X.K αs) (st : List Stmt) (m : M αs Int) : Prop :=
  ∀ (C : C0) (s : Env αs) (σ : L2.St) (G H : Hp) (o : Addr → Option Nat), Ok C Γ s σ G H o → ∀ (n : Int) (s' : Env αs), m s = some (n, s') →
    (∀ (d : NoD) (G' H' : Hp) (o' : Addr → Option Nat), Ok C Γ1 s' σ G' H' o' → W (.ref (cn n.toNat)) d.1 σ H') → ∀ D : Ends, wSs X st D σ H
theorem TBn.ite {mc : M αs Bool} {m m' : M αs Int} {x y : List Stmt} (hc : XT X Γ c mc) (ha : TBn X W cn Γ Γ1 x m) (hb : TBn X W cn Γ Γ1 y m') : TBn X W cn Γ Γ1 [.If c x y pos] (mIte mc m m') := by
  intro C s σ G H o k n s' hm q D
  obtain ⟨⟨t, s1⟩, e1, e2⟩ := bindE hm
  refine wSs_of (pss_one (ps_if pt_w pss_w pss_w)) ?_
  refine hc C s σ G H o k t s1 e1 _ fun G1 H1 o1 k1 g1 kp => ?_
  cases t with
  | true => exact ha C s1 σ G1 H1 o1 k1 n s' e2 q D
  | false => exact hb C s1 σ G1 H1 o1 k1 n s' e2 q D
end
end Sm
namespace Sm
open PySem PySem.Spec PyProof.Rows L2
open Enc (enc)
/-- the name of a clause goes -/
def sDel {αs : List Type} {ρ α : Type} (y : Var αs α) : MS αs ρ := fun s => some (.nx, y.set none s)
/-- neither break nor continue -/
def NBC {αs : List Type} {ρ : Type} (m : MS αs ρ) : Prop := ∀ s c s', m s = some (c, s') → c ≠ .bk ∧ c ≠ .ct
section
variable {αs : List Type} {α ρ : Type}
theorem NBC.asg {x : Var αs α} {m : M αs α} : NBC (sAsg x m : MS αs ρ) := fun s c s' h => by
  obtain ⟨p, _, e⟩ := bindE h
  cases e
  exact ⟨(fun z => nomatch z), (fun z => nomatch z)⟩
theorem NBC.ret {m : M αs ρ} : NBC (sRet m : MS αs ρ) := fun s c s' h => by
  obtain ⟨p, _, e⟩ := bindE h
  cases e
  exact ⟨(fun z => nomatch z), (fun z => nomatch z)⟩
theorem NBC.seq {m n : MS αs ρ} (hm : NBC m) (hn : NBC n) : NBC (sSeq m n) := fun s c s' h => by
  obtain ⟨⟨c1, s1⟩, e1, e2⟩ := bindE h
  cases c1 with
  | nx => exact hn _ _ _ e2
  | bk => exact absurd rfl (hm _ _ _ e1).1
  | ct => exact absurd rfl (hm _ _ _ e1).2
  | rt r =>
    cases e2
    exact ⟨(fun z => nomatch z), (fun z => nomatch z)⟩
theorem NBC.ite {c : M αs Bool} {m n : MS αs ρ} (hm : NBC m) (hn : NBC n) : NBC (sIf c m n) := fun s c s' h => by
  obtain ⟨⟨b, s1⟩, e1, e2⟩ := bindE h
  cases b with
  | true => exact hm _ _ _ e2
  | false => exact hn _ _ _ e2
end
section
variable {αs : List Type} {α ρ ω : Type}
instance {y : Var αs α} : Mo (sDel y : MS αs ρ) := ⟨fun l e => by
  cases e
  exact ⟨_, rfl, Le.set y none l⟩⟩
end
end Sm
namespace Sm
open PySem PySem.Spec PyProof.Rows L2
open Enc (enc)
/-- an exception of the class cls at a -/
def ExV (cls : Value) (d : Option Addr) (a : Addr) : HO := .ext fun h => ∃ (oe : Obj) (vs : Array Value), h.get? a = some oe ∧ Zc cls d oe ∧ oe.data = .fields vs
def ExR (G : Hp) (cn : Nat → Addr) (v : V) : Option Int → Prop
  | none => v = .non
  | some n => ∃ a, v = .ref a ∧ G a = some (ExV (.ref (cn n.toNat)) none a)
theorem ExR.mono {G G' : Hp} {cn : Nat → Addr} {v : V} (e : Ex G G') : ∀ {x : Option Int}, ExR G cn v x → ExR G' cn v x
  | none, h => h
  | some _, ⟨a, h1, h2⟩ => ⟨a, h1, e a _ h2⟩
def sOr {αs : List Type} {ρ : Type} (c : M αs Bool) (m n : MS αs ρ) : MS αs ρ := fun s => (c s).bind fun p => if p.1 = true then m s else n s
section
variable {X : Cx} {αs : List Type} {Γ Γ' : RTs X.K αs} {ρ : Type} {P : Pk X.K αs ρ} {st : Stmt} {m n : MS αs ρ} {c : M αs Bool}
theorem XS.or (h1 : XS X P Γ Γ' st m) (h2 : XS X P Γ Γ' st n) : XS X P Γ Γ' st (sOr c m n) := by
  intro C s σ G H o k q s' hm D f
  obtain ⟨⟨b, s1⟩, e1, e2⟩ := bindE hm
  cases b with
  | true => exact h1 C s σ G H o k q s' e2 D f
  | false => exact h2 C s σ G H o k q s' e2 D f
end
end Sm
namespace Sm
open PySem PySem.Spec L2
open Enc (enc)
end Sm
namespace Sm
open PySem PySem.Spec PyProof.Rows L2
open Enc (enc)
section
variable {X : Cx} {CX : CXT} {k : Nat} {f C : Addr} {fd : FuncData} {ps : List Str} {sp : Sp} {E : L2.St → XK} {x : Str} {p pos : Pos} {e : Expr} {es : List Expr} {t : TA}
theorem pe_makeAt (M : Mk X.K C f) (F : FnOk X.prog X.w X.K X.mg X.base CX k f fd ps sp) (hr : Room (k + 1) X.A) (hg : Gl X x) (hm : X.mg x = some (.ref C)) (hb : Binds X.K fd ps []) (hx : ∀ σ, PassesAt CX X σ (E σ)) (ha : PA X (e :: es) t)
    (hdb : (x == ("__debug__" : Str)) = false := by decide) (he : starEach (e :: es) X.env = (false, eval e X.env) :: starEach es X.env := by exact star_cons rfl) (hpl : (backTo pos (starEach es X.env)).any (·.1) = false := by rfl) :
    PE X (.Call (.Name x p) (e :: es) [] pos) (fun σ H Q => t σ H fun vs H1 => ∀ z dx, H1 z = none → H1 dx = none → dx ≠ z → sp (.ref z :: vs) (upd (upd H1 dx (.own z)) z (.ins C dx [])) (fun v H2 => v = .non ∧ Q (.ref z) H2) (E σ)) := by
  refine ⟨fun pins s σ H Q I h => wpAny_Call_Name_kw (ld_glob I hg hm ?_ hdb)⟩
  refine PySem.W.callWith_K (h₀ := X.base) I.ok.mod.kin M.kp (thn (ha.run pos pins s σ H _ I h) fun us s1 ⟨vs, H1, I1, r, q⟩ => ⟨I1.kIn, ?_⟩) he hpl
  have q1 := q (s1.heap.objs.size + 1) s1.heap.objs.size (I1.hok.fresh (Nat.le_succ _)) (I1.hok.fresh (Nat.le_refl _)) (Nat.ne_of_lt (Nat.lt_succ_self _))
  have J := Inv.made (C := C) I1
  have r2 : Vals (V.ref (s1.heap.objs.size + 1) :: vs) (Value.ref (s1.heap.objs.size + 1) :: us) := .cons rfl r
  have hl : (Value.ref (s1.heap.objs.size + 1) :: us).length = ps.length := (r2.length).symm.trans (F.len _ _ _ _ q1)
  have hb' := hb
  refine wpAny_call (make_map (f := f) I1.kIn M.makes M.init (beq_iff_eq.mp M.fn) (codeAny_mono (F.run _ X.stack _ _ ⟨Value.ref (s1.heap.objs.size + 1) :: us, []⟩ (Value.ref (s1.heap.objs.size + 1) :: us) _ _ (E σ) (hr.make C us []) (J.env0.make C us []) ?_ r2 q1) fun r s' hq => ?_))
  · have b := hb _ (Value.ref (s1.heap.objs.size + 1) :: us) J.kIn (by rw [List.append_nil]; exact hl)
    rw [List.append_nil] at b
    exact b
  · cases r with
    | error e => exact hx σ pins _ _ e s' J hq
    | ok fl =>
      cases fl with
      | ret u =>
        obtain ⟨v, H', J3, rv, ev, q3⟩ := J.after hq
        subst ev
        exact ⟨rv, ⟨V.ref (s1.heap.objs.size + 1), H', J3, rfl, q3⟩⟩
      | next => exact False.elim hq
      | brk => exact False.elim hq
      | cont => exact False.elim hq
end
section
variable {X : Cx} {W : WX} {cn : Nat → Addr} {αs : List Type} {Γ : RTs X.K αs} {τ : Type} {e : Expr} {es : List Expr} {pos p : Pos}
def mMakeR {ps : List Type} (x0 : τ) (f : Env (τ :: ps) → Option (Int × Env (τ :: ps))) (ma : M αs (Env ps)) : M αs Int := fun s => (ma s).bind fun p => (f ((some x0, p.1) : Option τ × Env ps)).bind fun q => some (q.1, p.2)
theorem RE.make {ps : List Type} {Ro : RT X.K τ} {Γp : RTs X.K ps} {f : Env (τ :: ps) → Option (Int × Env (τ :: ps))} {κ : Ks αs ps} {ma : M αs (Env ps)} {x0 : τ} {C fn : Addr} {fd : FuncData} {qs : List Str} {k : Nat} {x : Str} (tk : Takes X W)
    (h0 : ∀ (G H : Hp) (p dx : Addr) (A : Addr → Prop), H p = some (.ins C dx []) → A p → Ro.rel G H (.ref p) x0 A) (M : Mk X.K C fn)
    (F : FnOk X.prog X.w X.K X.mg X.base (L2.CX X.prog X.w) k fn fd qs (spR cn ⟨τ :: ps, ((Ro, Γp) : RT X.K τ × RTs X.K ps), f⟩)) (hr : Room (k + 1) X.A) (hg : Gl X x) (hm : X.mg x = some (.ref C)) (hb : Binds X.K fd qs [])
    (ha : XA X Γ (e :: es) κ Γp ma) (hv : κ.ixs = [] := by rfl) (hdb : (x == ("__debug__" : Str)) = false := by decide) (he : starEach (e :: es) X.env = (false, eval e X.env) :: starEach es X.env := by exact star_cons rfl) (hpl : (backTo pos (starEach es X.env)).any (·.1) = false := by rfl) :
    RE X W cn Γ (.Call (.Name x p) (e :: es) [] pos) (mMakeR x0 f ma) := by
  intro C0 s σ G H o k0 n s' hm' q Q
  obtain ⟨⟨as, s1⟩, e1, e2⟩ := bindE hm'
  obtain ⟨⟨r, as'⟩, e3, e4⟩ := bindE e2
  cases e4
  refine wE_of (pe_makeAt M F hr hg hm hb (fun σ => passAt tk σ) pa_w hdb he hpl) ?_
  refine ha C0 s σ G H o k0 as _ e1 _ fun vs G1 H1 o1 k1 g1 kp r1 => ?_
  intro x1 dx hx hdx hne
  have hx2 : (upd (upd H1 dx (.own x1)) x1 (.ins C dx [])) x1 = some (.ins C dx []) := upd_same
  have hx3 : ∀ a u, H1 a = some u → (upd (upd H1 dx (.own x1)) x1 (.ins C dx [])) a = some u := fun a u h => by
    rw [upd_ne (ne_of_none h hx), upd_ne (ne_of_none h hdx)]; exact h
  have gx : G1 x1 = none := by
    cases z : G1 x1 with
    | none => rfl
    | some u => rw [k1.gh _ _ z] at hx; cases hx
  refine ⟨G1, fun a => if a = x1 then some 0 else none, ((some x0, as) : Option τ × Env ps), r, as', ⟨Ex.refl _, fun a u h => hx3 a u (k1.gh a u h), fun _ _ _ h => h, fun _ _ _ h => h, fun _ h => h, fun _ _ h _ => h, fun a ha => ?_, ?_, fun α y w hw => ?_⟩, e3, fun d G' H' o' k' => ?_⟩
  · by_cases h : a = x1
    · subst h
      exact ⟨gx, ⟨_, hx2, rfl⟩, .inl ha⟩
    · simp [h] at ha
  · show (some (V.ref x1) :: vs.map some).length = _
    have := r1.len
    simp [this]
  · cases y with
    | vz =>
      have hw' : some x0 = some w := hw
      cases hw'
      exact ⟨.ref x1, rfl, h0 _ _ x1 dx _ hx2 (by show (if x1 = x1 then some 0 else none) = some 0; rw [if_pos rfl])⟩
    | vs y =>
      obtain ⟨u, h1, h2⟩ := r1.var _ y
      rcases h2 with ⟨_, h3, h4⟩ | ⟨z, _, h3, _⟩
      · refine ⟨u, ?_, (cpy_of h3 _ _ _ _ _).mpr (h4 w hw)⟩
        show (some (V.ref x1) :: vs.map some)[y.idx + 1]? = _
        rw [List.getElem?_cons_succ, List.getElem?_map, h1]; rfl
      · have := κ.sl_mem h3
        rw [hv] at this
        cases this
  · have al : Al G1 H1 G' H' := ⟨k'.g, k'.gh, fun a u h => k'.fr a u (fun (z : (if a = x1 then some 0 else none) ≠ none) => by
        rw [if_neg (ne_of_none h hx)] at z; exact z rfl) (hx3 a u h), fun a h g => k'.new a (fun (z : (if a = x1 then some 0 else none) ≠ none) => by
        by_cases w : a = x1
        · subst w; exact h hx
        · rw [if_neg w] at z; exact z rfl) (by
        cases u : H1 a with
        | none => exact absurd u h
        | some w =>
          have := hx3 a w u
          show (upd (upd H1 dx (.own x1)) x1 (.ins C dx [])) a ≠ none
          rw [this]; simp) g⟩
    exact q d G' H' o1 (k1.al al) (g1.trans al.g) kp
end
end Sm
namespace Sm
open PySem L2
section
variable {αs : List Type} {α β ρ τ ω : Type} {s : Env αs} {o : Option ω}
instance {ps : List Type} {x0 : τ} {f : Env (τ :: ps) → Option (Int × Env (τ :: ps))} {ma : M αs (Env ps)} [h : Mo ma] : Mo (mMakeR x0 f ma) := Mo.bd (g := fun as s => (f ((some x0, as) : Option τ × Env ps)).bind fun q => some (q.1, s)) h fun _ => Mo.op fun _ => Mo.rt
end
end Sm
namespace Sm
open PySem PySem.Spec L2
open Enc (enc)
end Sm
namespace Sm
open PySem PySem.Spec L2
open Enc (enc)
section
variable {X : Cx} {αs : List Type} {Γ Γ1 Γ2 Γ' Γt : RTs X.K αs} {α β γ ρ : Type} {e a b c tg iter elt : Expr} {pos p : Pos}
variable {ifs : List Expr} {scope : Scope} {own : List (Str × Nat)} {P : Pk X.K αs ρ} {Γb : RTs X.K αs}
/-- a row of expressions -/
def XLL (X : Cx) {αs : List Type} (Γ : RTs X.K αs) {β : Type} (Rb : RT X.K β) (es : List Expr) (m : M αs (List β)) : Prop :=
  ∀ (C : C0) (s : Env αs) (σ : L2.St) (G H : Hp) (o : Addr → Option Nat), Ok C Γ s σ G H o → ∀ (x : List β) (s' : Env αs), m s = some (x, s') → ∀ Q : List V → Hp → Prop,
    (∀ (vs : List V) (G' H' : Hp) (o' : Addr → Option Nat), Ok C Γ s' σ G' H' o' → Ex G G' → Kp Γ s s' → All2 (fun v x => Rb.shr G' v x) vs x → Q vs H') → wA X es σ H Q
theorem XLL.nil {Rb : RT X.K β} : XLL X Γ Rb [] (mC ([] : List β)) := by
  intro C s σ G H o k x s' hm Q q
  cases hm
  exact wA_of pa_nil (q [] G H o k (Ex.refl _) .refl trivial)
theorem XLL.cons {Rb : RT X.K β} {es : List Expr} {ma : M αs β} {ml : M αs (List β)} (hRb : Rb.fix = true) (ha : XE X Γ e Rb ma) (hl : XLL X Γ Rb es ml) (hs : starEach (e :: es) X.env = (false, eval e X.env) :: starEach es X.env := by exact star_cons rfl) : XLL X Γ Rb (e :: es) (m2 consO ma ml) := by
  intro C s σ G H o k z s' hm Q q
  obtain ⟨x, s1, xs, h1, h2, h3⟩ := m2E hm
  cases h3
  refine wA_of (pa_cons pe_w pa_w hs) ?_
  refine ha C s σ G H o k x s1 h1 _ fun v G1 H1 o1 B k1 g1 kp r1 t1 => ?_
  refine hl C s1 σ G1 H1 o1 k1 xs s' h2 _ fun vs G2 H2 o2 k2 g2 kp2 r2 => ?_
  exact q _ G2 H2 o2 k2 (g1.trans g2) (kp.trans kp2) ⟨Rb.smono ((cpy_of hRb _ _ _ _ _).mp r1) g2, r2⟩
end
end Sm
namespace Sm
open PySem PySem.Spec L2
section
variable {K : Fr}
theorem Gn.put : ∀ {αs : List Type} {α : Type} (x : Var αs α) {r : RT K α} {Γ Γ' : RTs K αs}, Gn Γ Γ' → (r = x.rt Γ ∨ r = RT.dead K α ∨ r = RT.gone K α) → Gn Γ (x.setR r Γ')
  | _, _, .vz, _, _, _, h, e => ⟨e, h.2⟩
  | _, _, .vs x, _, _, _, h, e => ⟨h.1, Gn.put x h.2 e⟩
end
end Sm
namespace Sm
open PySem PySem.Spec L2
open Enc (enc)
def sgn (c : Nat) : Str := ⟨#[c]⟩
def signs (x : Str) : Option (List Str) := some (x.cps.toList.map sgn)
theorem src_str {K : Fr} {G : Hp} (x : Str) : Src G (Its x) (RT.dat K Str) (x.cps.toList.map sgn) := by
  have at_ : ∀ (i : Nat) (y : Str), (x.cps.toList.map sgn)[i]? = some y → ∃ c, x.cps[i]? = some c ∧ y = sgn c := fun i y h => by
    rw [List.getElem?_map] at h
    obtain ⟨c, h1, h2⟩ := Option.map_eq_some_iff.mp h
    exact ⟨c, by simpa using h1, h2.symm⟩
  refine ⟨fun i y H h _ => ?_, fun H _ => ?_, fun i y G H v H' h _ e yl => ?_⟩
  · obtain ⟨c, h1, _⟩ := at_ i y h
    show i < x.cps.size
    exact (Array.getElem?_eq_some_iff.mp h1).1
  · show x.cps.size ≤ _
    simp
  · obtain ⟨c, h1, rfl⟩ := at_ i y h
    obtain ⟨rfl, c', h2, rfl⟩ := yl
    rw [h1] at h2; cases h2
    exact ⟨G, .refl e, .str _⟩
section
variable {X : Cx} {αs : List Type} {Γ : RTs X.K αs} {a b c tg : Expr} {pos p p1 p2 p3 apos : Pos}
theorem XI.str {ma : M αs Str} (ha : XE X Γ a (RT.dat X.K Str) ma) : XI X Γ tg a (RT.dat X.K Str) (m1 signs ma) := by
  intro C s σ G H o k xs s' hm Rw q
  obtain ⟨x, h1, h2⟩ := m1E hm
  cases h2
  refine wI_of (pi_str pe_w) ?_
  refine ha C s σ G H o k x s' h1 _ fun v G1 H1 o1 B k1 g1 kp r t => ?_
  cases dq_str r
  exact ⟨x, rfl, q _ G1 H1 o1 k1 g1 kp (src_str x)⟩
end
end Sm
namespace Sm
open PySem PySem.Spec L2
open Enc (enc)
section
variable {αs : List Type} {α ρ : Type} {t : Var αs (List α)}
/-- the body goes on, and changes t alone -/
def OnlyT (t : Var αs (List α)) (m : MS αs ρ) : Prop := ∀ s c s', m s = some (c, s') → c = .nx ∧ ∃ v, s' = t.set v s
theorem OnlyT.seq {m n : MS αs ρ} (h : OnlyT t m) (h' : OnlyT t n) : OnlyT t (sSeq m n) := by
  intro s c s' e
  obtain ⟨⟨c1, s1⟩, e1, e2⟩ := bindE e
  obtain ⟨rfl, v, rfl⟩ := h _ _ _ e1
  obtain ⟨rfl, u, rfl⟩ := h' _ _ _ e2
  exact ⟨rfl, u, by rw [Var.set_set]⟩
theorem OnlyT.app {me : M αs α} (hk : ∀ s z s', me s = some (z, s') → s' = s) : OnlyT t (sApp (ρ := ρ) t me) := by
  intro s c s' e0
  obtain ⟨_, _, e0⟩ := bindE e0
  obtain ⟨⟨p, s1⟩, e1, e2⟩ := bindE e0
  have hs := hk _ _ _ e1
  obtain ⟨xs, _, e3⟩ := bindE e2
  obtain ⟨_, e4⟩ := ite_some e3
  cases e4
  exact ⟨rfl, _, by rw [hs]⟩
theorem OnlyT.rev : OnlyT t (sRev (ρ := ρ) t) := by
  intro s c s' e
  obtain ⟨_, _, e⟩ := bindE e
  cases e
  exact ⟨rfl, _, rfl⟩
end
end Sm
namespace Sm
open PySem PySem.Spec L2
open Enc (enc)
def isTr (_ : TreeD) : Option Bool := some true
section
variable {X : Cx} {αs : List Type} {Γ : RTs X.K αs} {a : Expr} {pos p p2 : Pos}
/-- isinstance(tree, Tree) -/
theorem XE.isTree {C : Addr} {ma : M αs TreeD} (OB : ObjK X.K C) (hg : Gl X "isinstance") (hm : X.mg "isinstance" = none) (hg2 : Gl X "Tree") (hm2 : X.mg "Tree" = some (.ref C)) (ha : XE X Γ a (RT.tree X.K C) ma)
    (hd : (("Tree" : Str) == ("__debug__" : Str)) = false := by decide) (he : starEach [a, .Name "Tree" p2] X.env = [(false, eval a X.env), (false, eval (.Name "Tree" p2) X.env)] := by exact star2 rfl rfl) (he2 : starEach [.Name "Tree" p2] X.env = [(false, eval (.Name "Tree" p2) X.env)] := by exact star1 rfl) :
    XE X Γ (.Call (.Name "isinstance" p) [a, .Name "Tree" p2] [] pos) (RT.dat X.K Bool) (m1 isTr ma) :=
  .un (r := fun v H Q => rIsi X.K [v, .ref C] H Q) (pe_callB call_isi hg hm (by decide +kernel) (pa_cons pe_w (pa_cons (pe_glob (v := .ref C) hg2 hm2 rfl hd) pa_nil he2) (by rw [he, he2])) (he := by rw [he, he2]) (hpl := by rw [he2]; rfl)) ha rfl fun G H v x z Q e hx hz q => by
    cases hz
    obtain ⟨q0, dx, c1, c2, c3, rfl, _, _, _, _, hG, _⟩ := hx
    exact ⟨.ref q0, .ref C, .ref C, .ref C, true, rfl, .own C, .base (.ins (e _ _ hG) OB.cl OB.ha OB.hn OB.ht OB.hm), kit_self _ _, here (z := true) e (.bl _) q⟩
end
end Sm
namespace Sm
open PySem PySem.Spec L2
open Enc (enc)
end Sm
namespace Sm
open PySem PySem.Spec L2
open Enc (enc)
end Sm
namespace Sm
open PySem PySem.Spec L2
open Enc (enc)
section
variable {X : Cx} {αs : List Type} {Γ : RTs X.K αs} {τ ρ : Type} {a b e i : Expr} {es : List Expr} {pos pos' apos pn : Pos} {n mn : Str}
/-- x[i].m(..) -/
noncomputable def mCallO {ps : List Type} (y : Var αs (List τ)) (mi : M αs Int) (κ : Ks αs ps) (f : Env (τ :: ps) → Option (ρ × Env (τ :: ps))) (ma : M αs (Env ps)) : M αs ρ := fun s => (y.get s).bind fun _ => (mi s).bind fun p => (y.get p.2).bind fun xss => (Sm.idx xss p.1).bind fun x => (ma p.2).bind fun q =>
  (f ((some x, q.1) : Option τ × Env ps)).bind fun r => (r.2.1).bind fun x' => (setAt xss p.1 x').bind fun xss' => some (r.1, y.set (some xss') (κ.put r.2.2 q.2))
end
end Sm
namespace Sm
open PySem PySem.Spec L2
open Enc (enc)
section
variable {X : Cx} {αs : List Type} {Γ : RTs X.K αs} {α ρ : Type} {P : Pk X.K αs ρ} {a b e i : Expr} {pos p2 apos cpos pn : Pos} {n : Str}
noncomputable def sRowApp (x : Var αs (List (List α))) (mi : M αs Int) (me : M αs α) : MS αs ρ := fun s => (x.get s).bind fun _ => (mi s).bind fun p => (x.get p.2).bind fun xss => (idx xss p.1).bind fun row => (me p.2).bind fun r => (appO row r.1).bind fun row' => (setAt xss p.1 row').bind fun ys => some (.nx, x.set (some ys) r.2)
end
end Sm
namespace Sm
open PySem PySem.Spec L2
section
variable {αs : List Type} {α β γ ρ τ ω : Type} {s : Env αs} {o : Option ω}
instance {ps : List Type} {y : Var αs (List τ)} {mi : M αs Int} {κ : Ks αs ps} {f : Env (τ :: ps) → Option (ρ × Env (τ :: ps))} {ma : M αs (Env ps)} [h : Mo mi] [k : Mo ma] : Mo (mCallO y mi κ f ma) :=
  Mo.rd fun _ => Mo.bd (g := fun j s => (y.get s).bind fun xss => (Sm.idx xss j).bind fun xs => (ma s).bind fun q => (f ((some xs, q.1) : Option (τ) × Env ps)).bind fun r => (r.2.1).bind fun xs' => (setAt xss j xs').bind fun xss' => some (r.1, y.set (some xss') (κ.put r.2.2 q.2))) h fun j =>
    Mo.rd fun xss => Mo.op fun xs => Mo.bd (g := fun as s => (f ((some xs, as) : Option (τ) × Env ps)).bind fun r => (r.2.1).bind fun xs' => (setAt xss j xs').bind fun xss' => some (r.1, y.set (some xss') (κ.put r.2.2 s))) k fun as => Mo.op fun r => Mo.op fun _ => Mo.op fun _ => Mo.putst
end
section
variable {αs : List Type} {α ρ ω : Type} {s : Env αs} {o : Option ω} {Ψ : Ctl ρ → Env αs → Option ω → Prop} {x : Var αs (List (List α))}
instance {mi : M αs Int} {me : M αs α} [h : Mo mi] [k : Mo me] : Mo (sRowApp x mi me : MS αs ρ) :=
  Mo.rd fun _ => Mo.bd (g := fun j s => (x.get s).bind fun xss => (idx xss j).bind fun row => (me s).bind fun q => (appO row q.1).bind fun row' => (setAt xss j row').bind fun ys => some ((Ctl.nx : Ctl ρ), x.set (some ys) q.2)) h fun j =>
    Mo.rd fun xss => Mo.op fun row => Mo.bd (g := fun q s => (appO row q).bind fun row' => (setAt xss j row').bind fun ys => some ((Ctl.nx : Ctl ρ), x.set (some ys) s)) k fun _ => Mo.op fun _ => Mo.op fun _ => Mo.st
end
end Sm
namespace Sm
open PySem PySem.Spec L2
open Enc (enc)
end Sm
namespace Sm
open PySem PySem.Spec L2
open Enc (enc)
section
variable {X : Cx} {αs : List Type} {Γ : RTs X.K αs} {β τ ρ : Type} {i : Expr} {es : List Expr} {pos pos' pn pw : Pos} {n nw : Str}
noncomputable def mCallO2 {ps : List Type} (xw : Var αs β) (y : Var αs (List τ)) (mi : M αs Int) (κ : Ks αs ps) (f : Env (β :: τ :: ps) → Option (ρ × Env (β :: τ :: ps))) (ma : M αs (Env ps)) : M αs ρ := fun s => (xw.get s).bind fun _ => (y.get s).bind fun _ => (mi s).bind fun p => (y.get p.2).bind fun xss => (Sm.idx xss p.1).bind fun x => (ma p.2).bind fun q => (xw.get q.2).bind fun w =>
  (f ((some w, some x, q.1) : Option β × Option τ × Env ps)).bind fun r => (r.2.2.1).bind fun x' => (setAt xss p.1 x').bind fun xss' => some (r.1, y.set (some xss') (xw.set r.2.1 (κ.put r.2.2.2 q.2)))
end
end Sm
namespace Sm
open PySem PySem.Spec L2
section
variable {αs : List Type} {β γ ρ τ ω : Type} {s : Env αs} {o : Option ω}
theorem Mo.putst2 {ps : List Type} {κ : Ks αs ps} {b : ρ} {as : Env ps} {y : Var αs γ} {a : Option γ} {xw : Var αs β} {c : Option β} : Mo (fun s : Env αs => some (b, y.set a (xw.set c (κ.put as s)))) := ⟨fun l e => by cases e; exact ⟨_, rfl, Le.set y _ (Le.set xw _ (κ.put_le as l))⟩⟩
instance {ps : List Type} {xw : Var αs β} {y : Var αs (List τ)} {mi : M αs Int} {κ : Ks αs ps} {f : Env (β :: τ :: ps) → Option (ρ × Env (β :: τ :: ps))} {ma : M αs (Env ps)} [h : Mo mi] [k : Mo ma] : Mo (mCallO2 xw y mi κ f ma) :=
  Mo.rd fun _ => Mo.rd fun _ => Mo.bd (g := fun j s => (y.get s).bind fun xss => (Sm.idx xss j).bind fun x => (ma s).bind fun q => (xw.get q.2).bind fun w => (f ((some w, some x, q.1) : Option β × Option τ × Env ps)).bind fun r => (r.2.2.1).bind fun x' => (setAt xss j x').bind fun xss' => some (r.1, y.set (some xss') (xw.set r.2.1 (κ.put r.2.2.2 q.2)))) h fun j =>
    Mo.rd fun xss => Mo.op fun x => Mo.bd (g := fun as s => (xw.get s).bind fun w => (f ((some w, some x, as) : Option β × Option τ × Env ps)).bind fun r => (r.2.2.1).bind fun x' => (setAt xss j x').bind fun xss' => some (r.1, y.set (some xss') (xw.set r.2.1 (κ.put r.2.2.2 s)))) k fun as => Mo.rd fun _ => Mo.op fun r => Mo.op fun _ => Mo.op fun _ => Mo.putst2
end
end Sm
namespace Sm
open PySem PySem.Spec L2
open Enc (enc)
/-- an expression that changes nothing -/
def Still {αs : List Type} {β : Type} (m : M αs β) : Prop := ∀ s v s', m s = some (v, s') → s' = s
section
variable {αs : List Type} {α β γ : Type}
theorem Still.v {x : Var αs α} : Still (mV x) := fun s v s' h => by
  obtain ⟨_, _, e⟩ := bindE h
  cases e; rfl
theorem Still.c {b : β} : Still (mC b : M αs β) := fun s v s' h => by cases h; rfl
theorem Still.b {f : α → β → Option γ} {m : M αs α} {l : M αs β} (h1 : Still m) (h2 : Still l) : Still (m2 f m l) := fun s v s' h => by
  obtain ⟨x, s1, y, a, b, _⟩ := m2E h
  rw [h2 _ _ _ b, h1 _ _ _ a]
end
end Sm
namespace Sm
open PySem PySem.Spec L2
open Enc (enc)
section
variable {X : Cx} {αs : List Type} {Γ : RTs X.K αs} {τ ρ : Type} {e : Expr} {es : List Expr} {pos p : Pos}
def mMakeM {ps : List Type} (x0 : τ) (κ : Ks αs ps) (f : Env (τ :: ps) → Option (ρ × Env (τ :: ps))) (ma : M αs (Env ps)) : M αs τ := fun s => (ma s).bind fun p => (f ((some x0, p.1) : Option τ × Env ps)).bind fun q => (show Option τ from q.2.1).bind fun t => some (t, κ.put q.2.2 p.2)
end
section
variable {αs : List Type} {ρ τ ω : Type} {s : Env αs} {o : Option ω}
instance {ps : List Type} {x0 : τ} {κ : Ks αs ps} {f : Env (τ :: ps) → Option (ρ × Env (τ :: ps))} {ma : M αs (Env ps)} [k : Mo ma] : Mo (mMakeM x0 κ f ma) :=
  Mo.bd (g := fun as s => (f ((some x0, as) : Option τ × Env ps)).bind fun q => (show Option τ from q.2.1).bind fun t => some (t, κ.put q.2.2 s)) k fun as => Mo.op fun r => Mo.op fun _ => ⟨fun l e => by cases e; exact ⟨_, rfl, κ.put_le _ l⟩⟩
end
end Sm
namespace Sm
open PySem PySem.Spec L2
open Enc (enc)
instance : EqE Str := ⟨fun x y => by
  show PyData.eqv (.str x) (.str y) = decide (x = y)
  simp only [PyData.eqv]
  by_cases h : x = y
  · subst h; simp
  · rw [decide_eq_false h]; simpa using h⟩
end Sm
namespace Sm
open PySem PySem.Spec L2
open Enc (enc)
structure ConD where
  tr : Option (Option TreeD)
  st : Option (Option (List Pq))
  lv : Option (Option WatchD)
  deriving DecidableEq
def ConD.cnt (c : ConD) : Nat := one1 c.tr + one1 c.st + one1 c.lv
structure CC where
  C : Addr
  Z : WC
def optR {α : Type} (R : V → α → Prop) (u : V) : Option α → Prop
  | none => u = .non
  | some a => R u a
theorem optR.imp {α : Type} {R S : V → α → Prop} {u : V} {x : Option α} (f : ∀ a, R u a → S u a) (h : optR R u x) : optR S u x := by
  cases x with
  | none => exact h
  | some a => exact f a h
structure CoF (K : Fr) (Y : CC) (G H : Hp) (A : Addr → Prop) (p : Addr) (fs : List (Str × V)) (c : ConD) : Prop where
  len : fs.length ≤ c.cnt
  no : ∀ m : Str, ¬ m = "ground" → ¬ m = "start" → ¬ m = "live" → fs.lookup m = none
  tr : OF fs "ground" c.tr fun u t => optR (fun u t => (RT.tree K Y.Z.CT).shr G u t) u t
  st : OF fs "start" c.st fun u l => Dq K G u (enc l)
  lv : OF fs "live" c.lv fun u l => optR (fun u w => WaR K Y.Z (fun a => A a ∧ a ≠ p) G H u w) u l
def CoR (K : Fr) (Y : CC) (A : Addr → Prop) (G H : Hp) (v : V) (c : ConD) : Prop := ∃ p dx fs, v = .ref p ∧ A p ∧ H p = some (.ins Y.C dx fs) ∧ CoF K Y G H A p fs c
theorem CoR.mono {K : Fr} {Y : CC} {A B : Addr → Prop} {G G' H H' : Hp} {v : V} {c : ConD} (f : ∀ a, A a → B a) (g : Ex G G') (h : ∀ a o, A a → H a = some o → H' a = some o) : CoR K Y A G H v c → CoR K Y B G' H' v c := by
  rintro ⟨p, dx, fs, e, a, hp, q⟩
  exact ⟨p, dx, fs, e, f _ a, h _ _ a hp, q.len, q.no, q.tr.imp fun u t r => r.imp fun t r => (RT.tree K Y.Z.CT).smono r g, q.st.imp fun u l r => dq_mono g r, q.lv.imp fun u l r => r.imp fun w r => r.mono (fun a ha => ⟨f a ha.1, ha.2⟩) g fun a o ha e => h a o ha.1 e⟩
def cLv (c : ConD) : Option WatchD := c.lv.bind id
def cSetLv (w : WatchD) (c : ConD) : Option ConD := some { c with lv := some (some w) }
section
variable {X : Cx} {αs : List Type} {Γ Γ1 Γ' : RTs X.K αs} {α β τ ρ : Type} {P : Pk X.K αs ρ} {e ob a b : Expr} {es : List Expr} {pos pos' apos cpos q1 q2 q3 q4 : Pos} {n mn : Str} {Y : CC}
def RT.nn (K : Fr) : RT K Bool where
  rel := fun _ _ v b _ => decide (v = V.non) = b
  shr := fun _ v b => decide (v = V.non) = b
  fix := true
  grow := fun h _ _ => h
  view := fun h _ _ => h
  smono := fun h _ => h
  wid := fun h _ => h
  ok := .inl ⟨rfl, fun _ _ _ _ _ => Iff.rfl⟩
end
end Sm
namespace Sm
open PySem PySem.Spec L2
open Enc (enc)
end Sm
namespace Sm
open PySem PySem.Spec L2
open Enc (enc)
section
variable {X : Cx} {αs : List Type} {Γ : RTs X.K αs} {β ρ τ : Type} {e : Expr} {es : List Expr} {pos apos kpos q1 q2 p : Pos} {n mn kn : Str} {Y : CC}
def mCallL {ps : List Type} (y : Var αs ConD) (κ : Ks αs ps) (f : Env (WatchD :: ps) → Option (ρ × Env (WatchD :: ps))) (ma : M αs (Env ps)) : M αs ρ := fun s => (y.get s).bind fun c => (cLv c).bind fun w => (ma s).bind fun q =>
  (f ((some w, q.1) : Option WatchD × Env ps)).bind fun r => (r.2.1).bind fun w' => (cSetLv w' c).bind fun c' => some (r.1, y.set (some c') (κ.put r.2.2 q.2))
end
end Sm
namespace Sm
open PySem PySem.Spec L2
open Enc (enc)
section
variable {X : Cx} {αs : List Type} {Γ : RTs X.K αs} {β ρ τ : Type} {e : Expr} {es : List Expr} {pos apos kpos q1 q2 p : Pos} {n mn kn : Str} {Y : CC}
/-- C() -/
def mMake0 (x0 : τ) (f : Env [τ] → Option (ρ × Env [τ])) : M αs τ := fun s => (f ((some x0, ()) : Option τ × Unit)).bind fun q => (show Option τ from q.2.1).bind fun t => some (t, s)
end
section
variable {αs : List Type} {ρ τ ω : Type} {s : Env αs} {o : Option ω}
instance {x0 : τ} {f : Env [τ] → Option (ρ × Env [τ])} : Mo (mMake0 x0 f : M αs τ) :=
  ⟨fun l e => by
    obtain ⟨q, e1, e2⟩ := bindE e
    obtain ⟨t, e3, e4⟩ := bindE e2
    cases e4
    refine ⟨_, ?_, l⟩
    unfold mMake0
    rw [e1]
    show (show Option τ from q.2.1).bind _ = _
    rw [e3]; rfl⟩
instance {ps : List Type} {y : Var αs ConD} {κ : Ks αs ps} {f : Env (WatchD :: ps) → Option (ρ × Env (WatchD :: ps))} {ma : M αs (Env ps)} [k : Mo ma] : Mo (mCallL y κ f ma) :=
  Mo.rd fun c => Mo.op fun w => Mo.bd (g := fun as s => (f ((some w, as) : Option WatchD × Env ps)).bind fun r => (r.2.1).bind fun w' => (cSetLv w' c).bind fun c' => some (r.1, y.set (some c') (κ.put r.2.2 s))) k fun as => Mo.op fun r => Mo.op fun _ => Mo.op fun _ => Mo.putst
end
end Sm
namespace Sm
open PySem PySem.Spec L2
end Sm
namespace Sm
open PySem PySem.Spec L2
open Enc (enc)
structure L2p (α : Type) where
  a : α
  b : α
instance {α : Type} [Enc α] : Enc (L2p α) := ⟨fun x => .list [enc x.a, enc x.b]⟩
section
variable {X : Cx} {αs : List Type} {Γ : RTs X.K αs} {α : Type} {x y : Var αs α} {n1 n2 : Str} {q1 q2 pos : Pos} {kk : Nat}
instance {x y : Var αs α} : MoF (fun (w : L2p α) (s : Env αs) => y.set (some w.b) (x.set (some w.a) s)) := ⟨fun _ h => Le.set y _ (Le.set x _ h)⟩
end
end Sm
namespace Sm
open PySem PySem.Spec L2
end Sm
namespace Sm
open PySem PySem.Spec L2
open Enc (enc)
end Sm
namespace Sm
open PySem PySem.Spec L2
open Enc (enc)
noncomputable def ofRawB : PyData → Option Bool := ofRaw
theorem ofRawB_enc {x : PyData} {y : Bool} (h : ofRawB x = some y) : enc x = enc y := ofRaw_enc h
theorem ofRawB_at (x : Bool) : ofRawB (enc x) = some x := ofRaw_at x
theorem wipe_at : ∀ (ns : List Nat) (τ : L2.St) (i : Nat), (∀ n ∈ ns, n < τ.length) → (wipe τ ns)[i]? = if i ∈ ns then some none else τ[i]?
  | [], τ, i, _ => by simp [wipe]
  | n :: ns, τ, i, h => by
    show ((wipe τ ns).set n none)[i]? = _
    have wl : ∀ ns : List Nat, (wipe τ ns).length = τ.length := by
      intro ns
      induction ns with
      | nil => rfl
      | cons n ns ih => show ((wipe τ ns).set n none).length = _; rw [List.length_set, ih]
    rw [List.getElem?_set, wl]
    by_cases e : n = i
    · subst e
      rw [if_pos rfl, if_pos (h n List.mem_cons_self), if_pos List.mem_cons_self]
    · rw [if_neg e, wipe_at ns τ i fun m hm => h m (List.mem_cons_of_mem _ hm)]
      by_cases q : i ∈ ns
      · rw [if_pos q, if_pos (List.mem_cons_of_mem _ q)]
      · rw [if_neg q, if_neg]
        intro z
        rcases List.mem_cons.mp z with z | z
        · exact e z.symm
        · exact q z
section
variable {X : Cx} {αs : List Type} {Γ : RTs X.K αs} {α β γ δ : Type} {n1 n2 n3 n4 : Str} {pos : Pos}
theorem XG.quad [Enc α] [Enc β] [Enc γ] [Enc δ] {x : Var αs α} {y : Var αs β} {z : Var αs γ} {t : Var αs δ} {q1 q2 q3 q4 : Pos} {kk : Nat} (hc : X.calm = true) (hN : X.N.Nodup) (hi : X.N[x.idx]? = some n1) (hx : Loc X.env.scope n1) (hj : X.N[y.idx]? = some n2) (hy : Loc X.env.scope n2) (hk : X.N[z.idx]? = some n3) (hz : Loc X.env.scope n3)
    (hl : X.N[t.idx]? = some n4) (ht : Loc X.env.scope n4) (hf : X.fn n1 = true ∨ X.env.scope.names.lookup n1 = some .local := by first | exact .inl rfl | exact .inr rfl) (hf' : X.fn n2 = true ∨ X.env.scope.names.lookup n2 = some .local := by first | exact .inl rfl | exact .inr rfl)
    (hf'' : X.fn n3 = true ∨ X.env.scope.names.lookup n3 = some .local := by first | exact .inl rfl | exact .inr rfl) (hf3 : X.fn n4 = true ∨ X.env.scope.names.lookup n4 = some .local := by first | exact .inl rfl | exact .inr rfl) :
    XG X Γ (t.setR (RT.dat X.K δ) (z.setR (RT.dat X.K γ) (y.setR (RT.dat X.K β) (x.setR (RT.dat X.K α) Γ)))) (.Tuple [.Name n1 q1, .Name n2 q2, .Name n3 q3, .Name n4 q4] kk pos) (RT.dat X.K (T4 α β γ δ)) [x.idx, y.idx, z.idx, t.idx]
      (fun w s => t.set (some w.d) (z.set (some w.c) (y.set (some w.b) (x.set (some w.a) s)))) := by
  intro C s σ G H o k v w r Q q
  obtain ⟨p, v1, v2, v3, v4, rfl, hp, h1, h2, h3, h4⟩ := dq_t4 r
  obtain ⟨o', k'⟩ := k.set x (RT.dat X.K α) (v := v1) (y := w.a) (B := fun _ => False) h1 fun _ h => h.elim
  obtain ⟨o2, k2⟩ := k'.set y (RT.dat X.K β) (v := v2) (y := w.b) (B := fun _ => False) h2 fun _ h => h.elim
  obtain ⟨o3, k3⟩ := k2.set z (RT.dat X.K γ) (v := v3) (y := w.c) (B := fun _ => False) h3 fun _ h => h.elim
  obtain ⟨o4, k4⟩ := k3.set t (RT.dat X.K δ) (v := v4) (y := w.d) (B := fun _ => False) h4 fun _ h => h.elim
  refine wG_of (pg_tup hc (pgs_cons (pg_name hN hi hx hf) (pgs_cons (pg_name hN hj hy hf') (pgs_cons (pg_name hN hk hz hf'') (pgs_cons (pg_name hN hl ht hf3) pgs_nil))))) ?_
  refine ⟨p, [v1, v2, v3, v4], rfl, k.gh.t hp, rfl, v1, [v2, v3, v4], rfl, v2, [v3, v4], rfl, v3, [v4], rfl, v4, [], rfl, rfl, q _ o4 k4 ?_⟩
  have ln := k.len
  have b : ∀ n ∈ [x.idx, y.idx, z.idx, t.idx], n < σ.length := fun n hn => by
    rw [ln]
    simp only [List.mem_cons, List.mem_nil_iff, or_false] at hn
    rcases hn with rfl | rfl | rfl | rfl
    · exact x.lt
    · exact y.lt
    · exact z.lt
    · exact t.lt
  refine List.ext_getElem? fun i => ?_
  rw [wipe_at _ _ _ (by simpa using b), wipe_at _ _ _ b]
  by_cases h : i ∈ [x.idx, y.idx, z.idx, t.idx]
  · rw [if_pos h, if_pos h]
  · rw [if_neg h, if_neg h]
    simp only [List.mem_cons, List.mem_nil_iff, or_false, not_or] at h
    rw [List.getElem?_set_ne (fun q => h.2.2.2 q.symm), List.getElem?_set_ne (fun q => h.2.2.1 q.symm), List.getElem?_set_ne (fun q => h.2.1 q.symm), List.getElem?_set_ne (fun q => h.1 q.symm)]
end
end Sm
namespace Sm
open PySem PySem.Spec L2
open Enc (enc)
section
variable {X : Cx} {αs : List Type} {Γ Γ' : RTs X.K αs} {α β ρ : Type} {P : Pk X.K αs ρ} {e e2 : Expr} {n n' : Str} {pos : Pos}
theorem XS.parC {R1 : RT X.K α} {R2 : RT X.K β} {m : M αs α} {l : M αs β} {x : Var αs α} {y : Var αs β} {px py pt pt2 : Pos} {kt k2} (f1 : R1.fix = true) (f2 : R2.fix = true) (hc : X.calm = true) (hN : X.N.Nodup) (hi : X.N[x.idx]? = some n) (hx : Loc X.env.scope n) (hj : X.N[y.idx]? = some n') (hy : Loc X.env.scope n')
    (h1 : XE X Γ e R1 m) (h2 : XE X Γ e2 R2 l) (hf : X.fn n = true ∨ X.env.scope.names.lookup n = some .local := by first | exact .inl rfl | exact .inr rfl) (hf' : X.fn n' = true ∨ X.env.scope.names.lookup n' = some .local := by first | exact .inl rfl | exact .inr rfl)
    (hp : PA X [e, e2] (tCons (wE X e) (tCons (wE X e2) tNil)) := by exact pa_cons pe_w (pa_cons pe_w pa_nil (star_cons rfl)) (star_cons rfl))
    (hs : swapsWithSole [.Tuple [.Name n px, .Name n' py] kt pt] (.Tuple [e, e2] k2 pt2) pos.line X.env = pure false := by rfl) (hw : swappedStores [.Tuple [.Name n px, .Name n' py] kt pt] (.Tuple [e, e2] k2 pt2) X.env = pure none := by rfl)
    (ho : (assignEach [.Tuple [.Name n px, .Name n' py] kt pt] X.env).map (·.2) = [assign (.Tuple [.Name n px, .Name n' py] kt pt) X.env] := by rfl) :
    XS X P Γ (y.setR R2 (x.setR R1 Γ)) (.Assign [.Tuple [.Name n px, .Name n' py] kt pt] (.Tuple [e, e2] k2 pt2) pos) (sPar x y m l) := by
  intro C s σ G H o k cc sE hm D fin
  obtain ⟨⟨v1, s1⟩, e1, e3⟩ := bindE hm
  obtain ⟨⟨v2, s2⟩, e4, e5⟩ := bindE e3
  cases e5
  refine wS_of (ps_asg (pe_tup hp) (pg_tup hc (pgs_cons (pg_name hN hi hx hf) (pgs_cons (pg_name hN hj hy hf') pgs_nil))) hs hw ho) ?_
  refine two h1 h2 C s σ G H o k v1 s1 v2 s2 e1 e4 fun v u G1 H1 o1 B B' k1 g1 kp r1 r2 t1 t2 ds => ?_
  refine ⟨show 2 ≤ sizeLine by decide, fun p hp => ?_⟩
  have al := Al.kn k1.gh (o := .tup [v, u]) hp
  have ka := k1.al al
  have q1 := R1.smono ((cpy_of f1 _ _ _ _ _).mp r1) al.g
  have q2 := R2.smono ((cpy_of f2 _ _ _ _ _).mp r2) al.g
  obtain ⟨o', kb⟩ := ka.set x R1 (v := v) (y := v1) (B := fun _ => False) ((cpy_of f1 _ _ _ _ _).mpr q1) fun _ h => h.elim
  obtain ⟨o2, kc⟩ := kb.set y R2 (v := u) (y := v2) (B := fun _ => False) ((cpy_of f2 _ _ _ _ _).mpr q2) fun _ h => h.elim
  exact ⟨p, [v, u], rfl, .inl (.inl upd_same), rfl, v, [u], rfl, u, [], rfl, rfl, fin _ _ _ o2 kc⟩
end
end Sm
namespace Tw
abbrev Rds := List (Int × Int)
abbrev Pt := Nat × Nat
/-- good roads, of lengths up to L -/
def Vr (rs : Rds) (L : Int) : Prop := ∀ (k : Nat) (p l : Int), rs[k]? = some (p, l) → 0 ≤ p ∧ p ≤ k ∧ 1 ≤ l ∧ l ≤ L
def par (rs : Rds) (v : Nat) : Nat := if v = 0 then 0 else min ((rs.getD (v - 1) (0, 1)).1.toNat) (v - 1)
def len (rs : Rds) (v : Nat) : Nat := if v = 0 then 1 else max 1 ((rs.getD (v - 1) (0, 1)).2.toNat)
theorem par_lt {rs : Rds} {v : Nat} (h : v ≠ 0) : par rs v < v := by
  unfold par; rw [if_neg h]; omega
theorem par_le (rs : Rds) (v : Nat) : par rs v ≤ v := by
  by_cases h : v = 0
  · subst h; unfold par; rw [if_pos rfl]; exact Nat.le_refl 0
  · exact Nat.le_of_lt (par_lt h)
theorem len_pos (rs : Rds) (v : Nat) : 1 ≤ len rs v := by
  unfold len; by_cases h : v = 0
  · rw [if_pos h]; exact Nat.le_refl 1
  · rw [if_neg h]; omega
def ht (rs : Rds) (v : Nat) : Nat := if h : v = 0 then 0 else ht rs (par rs v) + len rs v
termination_by v
decreasing_by exact par_lt h
theorem ht_zero (rs : Rds) : ht rs 0 = 0 := by rw [ht]; simp
theorem ht_pos {rs : Rds} {v : Nat} (h : v ≠ 0) : ht rs v = ht rs (par rs v) + len rs v := by rw [ht]; simp [h]
theorem Vr.par_eq {rs : Rds} {L : Int} (V : Vr rs L) {k : Nat} {p l : Int} (h : rs[k]? = some (p, l)) : (par rs (k + 1) : Int) = p := by
  obtain ⟨h1, h2, _⟩ := V k p l h
  unfold Tw.par
  rw [if_neg (by omega), Nat.add_sub_cancel, List.getD_eq_getElem?_getD, h]
  simp only [Option.getD_some]
  omega
theorem Vr.len_eq {rs : Rds} {L : Int} (V : Vr rs L) {k : Nat} {p l : Int} (h : rs[k]? = some (p, l)) : (len rs (k + 1) : Int) = l := by
  obtain ⟨h1, h2, h3, h4⟩ := V k p l h
  unfold Tw.len
  rw [if_neg (by omega), Nat.add_sub_cancel, List.getD_eq_getElem?_getD, h]
  simp only [Option.getD_some]
  omega
theorem Vr.len_le {rs : Rds} {L : Nat} (V : Vr rs L) (hL : 1 ≤ L) (v : Nat) : Tw.len rs v ≤ L := by
  by_cases hv : v = 0
  · subst hv; unfold Tw.len; rw [if_pos rfl]; exact hL
  · unfold Tw.len
    rw [if_neg hv, List.getD_eq_getElem?_getD]
    cases h : rs[v - 1]? with
    | none => simp; omega
    | some x =>
      obtain ⟨p, l⟩ := x
      obtain ⟨_, _, h3, h4⟩ := V _ p l h
      simp only [Option.getD_some]
      omega
/-- a point of the tree -/
def Vp (rs : Rds) (p : Pt) : Prop := p.1 ≤ rs.length ∧ p.2 < len rs p.1
def hp (rs : Rds) (p : Pt) : Nat := ht rs p.1 - p.2
/-- one step towards the root -/
def st (rs : Rds) (p : Pt) : Pt := if p.1 = 0 then (0, 0) else if p.2 + 1 = len rs p.1 then (par rs p.1, 0) else (p.1, p.2 + 1)
theorem Vp.zero {rs : Rds} {p : Pt} (h : Vp rs p) (h0 : p.1 = 0) : p = (0, 0) := by
  obtain ⟨v, u⟩ := p
  have h0' : v = 0 := h0
  subst h0'
  have := h.2
  unfold len at this
  rw [if_pos rfl] at this
  have hu : u = 0 := by omega
  rw [hu]
theorem hp_zero (rs : Rds) : hp rs (0, 0) = 0 := by unfold hp; show ht rs 0 - 0 = 0; rw [ht_zero]
theorem Vp.hp_pos {rs : Rds} {p : Pt} (h : Vp rs p) (h0 : p.1 ≠ 0) : 1 ≤ hp rs p := by
  have := h.2
  unfold hp
  rw [ht_pos h0]; omega
theorem Vp.le_ht {rs : Rds} {p : Pt} (h : Vp rs p) : p.2 ≤ ht rs p.1 := by
  by_cases h0 : p.1 = 0
  · rw [h.zero h0]; exact Nat.zero_le _
  · have := h.2
    rw [ht_pos h0]; omega
theorem Vp.st_ok {rs : Rds} {p : Pt} (h : Vp rs p) : Vp rs (st rs p) := by
  unfold Tw.st
  by_cases h0 : p.1 = 0
  · rw [if_pos h0]; exact ⟨Nat.zero_le _, len_pos _ _⟩
  · rw [if_neg h0]
    by_cases h1 : p.2 + 1 = len rs p.1
    · rw [if_pos h1]; exact ⟨Nat.le_trans (par_le _ _) h.1, len_pos _ _⟩
    · rw [if_neg h1]; exact ⟨h.1, by have := h.2; show p.2 + 1 < len rs p.1; omega⟩
theorem Vp.hp_st {rs : Rds} {p : Pt} (h : Vp rs p) (h0 : p.1 ≠ 0) : hp rs (Tw.st rs p) + 1 = hp rs p := by
  have h2 := h.2
  have h3 := ht_pos (rs := rs) h0
  unfold Tw.st
  rw [if_neg h0]
  by_cases h1 : p.2 + 1 = len rs p.1
  · rw [if_pos h1]; unfold hp; show ht rs (par rs p.1) - 0 + 1 = _; omega
  · rw [if_neg h1]; unfold hp; show ht rs p.1 - (p.2 + 1) + 1 = _; omega
/-- k steps towards the root -/
def sts (rs : Rds) : Nat → Pt → Pt
  | 0, p => p
  | k + 1, p => sts rs k (st rs p)
theorem sts_add (rs : Rds) : ∀ (k m : Nat) (p : Pt), sts rs m (sts rs k p) = sts rs (k + m) p
  | 0, m, p => by rw [Nat.zero_add]; rfl
  | k + 1, m, p => by
    rw [show k + 1 + m = (k + m) + 1 by omega]
    exact sts_add rs k m (st rs p)
theorem sts_one (rs : Rds) (k : Nat) (p : Pt) : st rs (sts rs k p) = sts rs (k + 1) p := sts_add rs k 1 p
theorem Vp.sts_ok {rs : Rds} : ∀ {k : Nat} {p : Pt}, Vp rs p → Vp rs (sts rs k p)
  | 0, _, h => h
  | k + 1, p, h => (Vp.sts_ok (k := k) (p := Tw.st rs p) h.st_ok : Vp rs (Tw.sts rs k (Tw.st rs p)))
theorem Vp.hp_sts {rs : Rds} : ∀ {k : Nat} {p : Pt}, Vp rs p → k ≤ hp rs p → hp rs (Tw.sts rs k p) + k = hp rs p
  | 0, _, _, _ => rfl
  | k + 1, p, h, hk => by
    have h0 : p.1 ≠ 0 := fun e => by
      rw [h.zero e, hp_zero] at hk; omega
    have h1 := h.hp_st h0
    have := Vp.hp_sts (k := k) h.st_ok (by omega)
    show hp rs (Tw.sts rs k (Tw.st rs p)) + (k + 1) = _
    omega
/-- the points from p to the root -/
def climb (rs : Rds) (p : Pt) : List Pt := (List.range (hp rs p + 1)).map fun k => sts rs k p
theorem climb_len (rs : Rds) (p : Pt) : (climb rs p).length = hp rs p + 1 := by unfold climb; simp
theorem climb_at {rs : Rds} {p : Pt} {k : Nat} (h : k ≤ hp rs p) : (climb rs p)[k]? = some (sts rs k p) := by
  unfold climb
  rw [List.getElem?_map, List.getElem?_range (by omega)]; rfl
/-- the node on whose road (lower end with it) the height t lies, above v -/
def cov (rs : Rds) (v t : Nat) : Nat := if h : v = 0 then 0 else if ht rs (par rs v) < t then v else cov rs (par rs v) t
termination_by v
decreasing_by exact par_lt h
theorem cov_zero (rs : Rds) (t : Nat) : cov rs 0 t = 0 := by rw [cov]; simp
theorem cov_hi {rs : Rds} {v t : Nat} (h : v ≠ 0) (h2 : ht rs (par rs v) < t) : cov rs v t = v := by rw [cov]; simp [h, h2]
theorem cov_lo {rs : Rds} {v t : Nat} (h : v ≠ 0) (h2 : t ≤ ht rs (par rs v)) : cov rs v t = cov rs (par rs v) t := by
  rw [cov]; simp only [h, dite_false]; rw [if_neg (by omega)]
theorem cov_le (rs : Rds) (t : Nat) (v : Nat) : cov rs v t ≤ v := by
  induction v using Nat.strongRecOn with
  | _ v ih =>
    by_cases hv : v = 0
    · subst hv; rw [cov_zero]; exact Nat.le_refl 0
    · by_cases h : ht rs (par rs v) < t
      · rw [cov_hi hv h]; exact Nat.le_refl v
      · rw [cov_lo hv (by omega)]
        exact Nat.le_trans (ih _ (par_lt hv)) (par_le _ _)
/-- the least common node -/
def lca (rs : Rds) (v w : Nat) : Nat := if h : v = w then v else if h2 : w < v then lca rs (par rs v) w else lca rs v (par rs w)
termination_by v + w
decreasing_by
  · have := par_lt (rs := rs) (v := v) (by omega); omega
  · have := par_lt (rs := rs) (v := w) (by omega); omega
theorem lca_eq {rs : Rds} {v w : Nat} (h : v = w) : lca rs v w = v := by rw [lca]; simp [h]
theorem lca_gt {rs : Rds} {v w : Nat} (h : w < v) : lca rs v w = lca rs (par rs v) w := by
  rw [lca]; have : ¬ v = w := by omega
  simp [this, h]
theorem lca_lt {rs : Rds} {v w : Nat} (h : v < w) : lca rs v w = lca rs v (par rs w) := by
  rw [lca]; have : ¬ v = w := by omega
  have : ¬ w < v := by omega
  simp [*]
theorem lca_ht {rs : Rds} : ∀ (n v w : Nat), v + w ≤ n → ht rs (lca rs v w) ≤ ht rs v ∧ ht rs (lca rs v w) ≤ ht rs w := by
  intro n
  induction n with
  | zero =>
    intro v w h
    have : v = w := by omega
    rw [lca_eq this]; subst this; exact ⟨Nat.le_refl _, Nat.le_refl _⟩
  | succ n ih =>
    intro v w h
    rcases Nat.lt_trichotomy v w with h1 | h1 | h1
    · rw [lca_lt h1]
      have h2 := par_lt (rs := rs) (v := w) (by omega)
      obtain ⟨a, b⟩ := ih v (par rs w) (by omega)
      have := ht_pos (rs := rs) (v := w) (by omega)
      exact ⟨a, by omega⟩
    · rw [lca_eq h1]; subst h1; exact ⟨Nat.le_refl _, Nat.le_refl _⟩
    · rw [lca_gt h1]
      have h2 := par_lt (rs := rs) (v := v) (by omega)
      obtain ⟨a, b⟩ := ih (par rs v) w (by omega)
      have := ht_pos (rs := rs) (v := v) (by omega)
      exact ⟨by omega, b⟩
/-- two nodes have the height t in common exactly up to their least common node -/
theorem cov_lca {rs : Rds} {t : Nat} : ∀ (n v w : Nat), v + w ≤ n → t ≤ ht rs v → t ≤ ht rs w → (cov rs v t = cov rs w t ↔ t ≤ ht rs (lca rs v w) ∨ t = 0) := by
  intro n
  induction n with
  | zero =>
    intro v w h hv hw
    have e : v = w := by omega
    rw [lca_eq e]; subst e
    exact ⟨fun _ => .inl hv, fun _ => rfl⟩
  | succ n ih =>
    intro v w h hv hw
    rcases Nat.lt_trichotomy v w with h1 | h1 | h1
    · have hw0 : w ≠ 0 := by omega
      have h2 := par_lt (rs := rs) hw0
      rw [lca_lt h1]
      by_cases h3 : ht rs (par rs w) < t
      · rw [cov_hi hw0 h3]
        have h4 := cov_le rs t v
        have h5 := (lca_ht (rs := rs) _ v (par rs w) (Nat.le_refl _)).2
        exact ⟨fun e => by omega, fun e => by omega⟩
      · rw [cov_lo hw0 (by omega)]
        exact ih v (par rs w) (by omega) hv (by omega)
    · rw [lca_eq h1]; subst h1
      exact ⟨fun _ => .inl hv, fun _ => rfl⟩
    · have hv0 : v ≠ 0 := by omega
      have h2 := par_lt (rs := rs) hv0
      rw [lca_gt h1]
      by_cases h3 : ht rs (par rs v) < t
      · rw [cov_hi hv0 h3]
        have h4 := cov_le rs t w
        have h5 := (lca_ht (rs := rs) _ (par rs v) w (Nat.le_refl _)).1
        exact ⟨fun e => by omega, fun e => by omega⟩
      · rw [cov_lo hv0 (by omega)]
        exact ih (par rs v) w (by omega) (by omega) hw
/-- the point above p at the height t -/
theorem sts_cov {rs : Rds} {t : Nat} : ∀ (k : Nat) (p : Pt), Vp rs p → hp rs p = t + k → sts rs k p = (cov rs p.1 t, ht rs (cov rs p.1 t) - t)
  | 0, p, h, e => by
    show p = _
    by_cases h0 : p.1 = 0
    · rw [h.zero h0]
      show _ = (cov rs 0 t, ht rs (cov rs 0 t) - t)
      rw [cov_zero, ht_zero]; simp
    · have h2 := h.2
      have h3 := ht_pos (rs := rs) h0
      have h4 : hp rs p = ht rs p.1 - p.2 := rfl
      rw [cov_hi h0 (by omega)]
      refine Prod.ext rfl ?_
      show p.2 = ht rs p.1 - t
      omega
  | k + 1, p, h, e => by
    have h0 : p.1 ≠ 0 := fun e0 => by rw [h.zero e0, hp_zero] at e; omega
    have h1 := h.hp_st h0
    have ih := sts_cov (t := t) k (st rs p) h.st_ok (by omega)
    show sts rs k (st rs p) = _
    rw [ih]
    have h2 := h.2
    have h3 := ht_pos (rs := rs) h0
    have h4 : hp rs p = ht rs p.1 - p.2 := rfl
    have e1 : cov rs (st rs p).1 t = cov rs p.1 t := by
      unfold st
      rw [if_neg h0]
      by_cases h5 : p.2 + 1 = len rs p.1
      · rw [if_pos h5]
        show cov rs (par rs p.1) t = _
        rw [cov_lo h0 (by omega)]
      · rw [if_neg h5]
    rw [e1]
/-- the height of the point where two ways to the root meet -/
def jn (rs : Rds) (p q : Pt) : Nat := min (min (hp rs p) (hp rs q)) (ht rs (lca rs p.1 q.1))
theorem jn_le (rs : Rds) (p q : Pt) : jn rs p q ≤ hp rs p ∧ jn rs p q ≤ hp rs q := by unfold jn; omega
theorem meet_iff {rs : Rds} {p q : Pt} (hpp : Vp rs p) (hq : Vp rs q) {t : Nat} (h1 : t ≤ hp rs p) (h2 : t ≤ hp rs q) : (sts rs (hp rs p - t) p = sts rs (hp rs q - t) q) ↔ t ≤ jn rs p q := by
  rw [sts_cov (t := t) _ p hpp (by omega), sts_cov (t := t) _ q hq (by omega)]
  have a1 : t ≤ ht rs p.1 := by unfold hp at h1; omega
  have a2 : t ≤ ht rs q.1 := by unfold hp at h2; omega
  have := cov_lca (rs := rs) _ p.1 q.1 (Nat.le_refl _) a1 a2
  constructor
  · intro e
    have e1 := (Prod.ext_iff.mp e).1
    have := this.mp e1
    unfold jn
    omega
  · intro h
    have : cov rs p.1 t = cov rs q.1 t := this.mpr (by unfold jn at h; omega)
    rw [this]
theorem lca_comm {rs : Rds} : ∀ (n v w : Nat), v + w ≤ n → lca rs v w = lca rs w v := by
  intro n
  induction n with
  | zero => intro v w h; have : v = w := by omega
            subst this; rfl
  | succ n ih =>
    intro v w h
    rcases Nat.lt_trichotomy v w with h1 | h1 | h1
    · rw [lca_lt h1, lca_gt h1]
      exact ih _ _ (by have := par_lt (rs := rs) (v := w) (by omega); omega)
    · subst h1; rfl
    · rw [lca_gt h1, lca_lt h1]
      exact ih _ _ (by have := par_lt (rs := rs) (v := v) (by omega); omega)
theorem jn_comm (rs : Rds) (p q : Pt) : jn rs p q = jn rs q p := by
  unfold jn; rw [lca_comm _ p.1 q.1 (Nat.le_refl _)]; omega
theorem jn_self (rs : Rds) (p : Pt) : jn rs p p = hp rs p := by
  unfold jn; rw [lca_eq rfl]; unfold hp; omega
def dist (rs : Rds) (p q : Pt) : Nat := hp rs p + hp rs q - 2 * jn rs p q
theorem dist_comm (rs : Rds) (p q : Pt) : dist rs p q = dist rs q p := by unfold dist; rw [jn_comm, Nat.add_comm]
theorem dist_self (rs : Rds) (p : Pt) : dist rs p p = 0 := by unfold dist; rw [jn_self]; omega
/-- the way from p to q -/
def way (rs : Rds) (p q : Pt) : List Pt := (climb rs p).take (hp rs p + 1 - jn rs p q) ++ ((climb rs q).take (hp rs q - jn rs p q)).reverse
theorem way_len (rs : Rds) (p q : Pt) : (way rs p q).length = dist rs p q + 1 := by
  unfold way dist
  rw [List.length_append, List.length_reverse, List.length_take, List.length_take, climb_len, climb_len]
  have := jn_le rs p q
  omega
theorem Vr.nil {L : Int} : Vr [] L := fun k p l h => by simp at h
theorem Vr.snoc {rs : Rds} {L p l : Int} (V : Vr rs L) (h1 : 0 ≤ p) (h2 : p ≤ rs.length) (h3 : 1 ≤ l) (h4 : l ≤ L) : Vr (rs ++ [(p, l)]) L := fun k p' l' h => by
  by_cases hk : k < rs.length
  · rw [List.getElem?_append_left hk] at h
    exact V k p' l' h
  · have hk2 : k = rs.length := by
      have := (List.getElem?_eq_some_iff.mp h).1
      simp at this; omega
    subst hk2
    rw [List.getElem?_append_right (Nat.le_refl _)] at h
    simp at h
    obtain ⟨rfl, rfl⟩ := h
    exact ⟨h1, h2, h3, h4⟩
theorem Vp.node {rs : Rds} {v : Nat} (h : v ≤ rs.length) : Vp rs (v, 0) := ⟨h, len_pos _ _⟩
/-- the sum of the lengths bounds the heights -/
theorem sum_take_le (rs : Rds) {L : Int} (V : Vr rs L) : ∀ k, ((rs.map (·.2)).take k).sum ≤ (rs.map (·.2)).sum := by
  intro k
  have : 0 ≤ ((rs.map (·.2)).drop k).sum := by
    have hp : ∀ (xs : List Int), (∀ x ∈ xs, 0 ≤ x) → 0 ≤ xs.sum := by
      intro xs
      induction xs with
      | nil => intro _; simp
      | cons x xs ih => intro h; have := ih fun y hy => h y (List.mem_cons_of_mem _ hy); have := h x List.mem_cons_self; simp; omega
    refine hp _ fun x hx => ?_
    obtain ⟨y, hy, rfl⟩ := List.mem_map.mp (List.mem_of_mem_drop hx)
    obtain ⟨i, hi⟩ := List.getElem?_of_mem hy
    have := V i y.1 y.2 hi
    omega
  have e : (rs.map (·.2)).sum = ((rs.map (·.2)).take k).sum + ((rs.map (·.2)).drop k).sum := by rw [← List.sum_append, List.take_append_drop]
  omega
theorem ht_sum {rs : Rds} {L : Int} (V : Vr rs L) (v : Nat) (h : v ≤ rs.length) : (ht rs v : Int) ≤ ((rs.map (·.2)).take v).sum := by
  induction v using Nat.strongRecOn with
  | _ v ih =>
    by_cases hv : v = 0
    · subst hv; rw [ht_zero]; simp
    · rw [ht_pos hv]
      have h1 := par_lt (rs := rs) hv
      have h2 := ih _ h1 (by omega)
      obtain ⟨⟨a, b⟩, hab⟩ : ∃ x, rs[v - 1]? = some x := ⟨_, List.getElem?_eq_getElem (by omega)⟩
      have e1 := V.len_eq hab
      rw [show v - 1 + 1 = v by omega] at e1
      have mono : ∀ a b, a ≤ b → b ≤ rs.length → ((rs.map (·.2)).take a).sum ≤ ((rs.map (·.2)).take b).sum := fun a b hab hb => by
        have := sum_take_le (rs.take b) (L := L) (fun k p l hk => V k p l (by rw [List.getElem?_take] at hk; by_cases q : k < b <;> simp [q] at hk; exact hk)) a
        rw [List.map_take, List.take_take, Nat.min_eq_left hab] at this
        exact this
      have h3 := mono (par rs v) (v - 1) (by omega) (by omega)
      have e2 : ((rs.map (·.2)).take (v - 1 + 1)).sum = ((rs.map (·.2)).take (v - 1)).sum + b := by
        rw [List.take_succ, List.getElem?_map, hab, List.sum_append]; simp
      rw [show v - 1 + 1 = v by omega] at e2
      rw [e2]; push_cast; omega
theorem sum_le {rs : Rds} {L : Nat} (V : Vr rs L) : (rs.map (·.2)).sum ≤ L * rs.length := by
  have key : ∀ (xs : List Int), (∀ x ∈ xs, x ≤ L) → xs.sum ≤ L * xs.length := by
    intro xs
    induction xs with
    | nil => intro _; simp
    | cons x xs ih =>
      intro h
      have := ih fun y hy => h y (List.mem_cons_of_mem _ hy)
      have := h x List.mem_cons_self
      rw [List.sum_cons, List.length_cons]
      push_cast
      rw [Int.mul_add]; omega
  have := key (rs.map (·.2)) fun x hx => by
    obtain ⟨y, hy, rfl⟩ := List.mem_map.mp hx
    obtain ⟨i, hi⟩ := List.getElem?_of_mem hy
    have := V i y.1 y.2 hi
    omega
  simpa using this
theorem sum_nonneg {rs : Rds} {L : Int} (V : Vr rs L) : 0 ≤ (rs.map (·.2)).sum := by
  have := sum_take_le rs V 0
  simpa using this
open Sm in
def mk (rs : Rds) : TreeD := ⟨0 :: rs.map fun x => x.1, 1 :: rs.map fun x => x.2, (List.range (rs.length + 1)).map fun v => (ht rs v : Int)⟩
theorem mk_ps {rs : Rds} {L : Int} (V : Vr rs L) {v : Nat} (h : v ≤ rs.length) : (0 :: rs.map fun x : Int × Int => x.1)[v]? = some (par rs v : Int) := by
  cases v with
  | zero => simp [par]
  | succ v =>
    obtain ⟨⟨a, b⟩, hab⟩ : ∃ x, rs[v]? = some x := ⟨_, List.getElem?_eq_getElem (by omega)⟩
    rw [List.getElem?_cons_succ, List.getElem?_map, hab, V.par_eq hab]; rfl
theorem mk_ls {rs : Rds} {L : Int} (V : Vr rs L) {v : Nat} (h : v ≤ rs.length) : (1 :: rs.map fun x : Int × Int => x.2)[v]? = some (len rs v : Int) := by
  cases v with
  | zero => simp [len]
  | succ v =>
    obtain ⟨⟨a, b⟩, hab⟩ : ∃ x, rs[v]? = some x := ⟨_, List.getElem?_eq_getElem (by omega)⟩
    rw [List.getElem?_cons_succ, List.getElem?_map, hab, V.len_eq hab]; rfl
theorem mk_hs (rs : Rds) {v n : Nat} (h : v < n) : ((List.range n).map fun v => (ht rs v : Int))[v]? = some (ht rs v : Int) := by
  rw [List.getElem?_map, List.getElem?_range h]; rfl
/-- the test of a point -/
def inb (rs : Rds) (x : Int × Int) : Bool := decide (0 ≤ x.1 ∧ x.1 ≤ rs.length ∧ 0 ≤ x.2 ∧ x.2 < len rs x.1.toNat)
end Tw
namespace Tw
theorem sum_cast : ∀ (xs : List Nat), (xs.map fun n : Nat => (n : Int)).sum = (xs.sum : Int)
  | [] => rfl
  | x :: xs => by rw [List.map_cons, List.sum_cons, List.sum_cons, sum_cast xs]; omega
end Tw
namespace Tw
/-- from the greater node up to its parent -/
theorem dist_up {rs : Rds} {v u : Nat} {q : Pt} (hv : Vp rs (v, u)) (hq : Vp rs q) (h : q.1 < v) : dist rs (v, u) q + u = len rs v + dist rs (par rs v, 0) q := by
  have h0 : v ≠ 0 := by omega
  have h1 := ht_pos (rs := rs) h0
  have h2 : u < len rs v := hv.2
  have e : jn rs (v, u) q = jn rs (par rs v, 0) q := by
    unfold jn
    show min (min (hp rs (v, u)) (hp rs q)) (ht rs (lca rs v q.1)) = min (min (hp rs (par rs v, 0)) (hp rs q)) (ht rs (lca rs (par rs v) q.1))
    rw [lca_gt h]
    have h3 := (lca_ht (rs := rs) _ (par rs v) q.1 (Nat.le_refl _)).1
    have e1 : hp rs (v, u) = ht rs v - u := rfl
    have e2 : hp rs (par rs v, 0) = ht rs (par rs v) := rfl
    omega
  have j1 := jn_le rs (v, u) q
  have j2 := jn_le rs (par rs v, 0) q
  have e1 : hp rs (v, u) = ht rs v - u := rfl
  have e2 : hp rs (par rs v, 0) = ht rs (par rs v) := rfl
  unfold dist
  rw [e] at j1 ⊢
  omega
theorem dist_road {rs : Rds} {v u w : Nat} (h1 : Vp rs (v, u)) (h2 : Vp rs (v, w)) : (dist rs (v, u) (v, w) : Int) = if (u : Int) - w < 0 then -((u : Int) - w) else (u : Int) - w := by
  have e1 : hp rs (v, u) = ht rs v - u := rfl
  have e2 : hp rs (v, w) = ht rs v - w := rfl
  have l1 : u ≤ ht rs v := h1.le_ht
  have l2 : w ≤ ht rs v := h2.le_ht
  have ej : jn rs (v, u) (v, w) = min (ht rs v - u) (ht rs v - w) := by
    unfold jn
    show min (min (hp rs (v, u)) (hp rs (v, w))) (ht rs (lca rs v v)) = _
    rw [lca_eq rfl, e1, e2]; omega
  unfold dist
  rw [ej, e1, e2]
  split <;> omega
theorem dist_zero {rs : Rds} {p q : Pt} (h1 : Vp rs p) (h2 : Vp rs q) (h : dist rs p q = 0) : p = q := by
  have j := jn_le rs p q
  unfold dist at h
  have e1 : hp rs p = jn rs p q := by omega
  have e2 : hp rs q = jn rs p q := by omega
  have := (meet_iff h1 h2 (t := jn rs p q) j.1 j.2).mpr (Nat.le_refl _)
  rw [e1, e2, Nat.sub_self] at this
  exact this
theorem dist_pos {rs : Rds} {p q : Pt} (h1 : Vp rs p) (h2 : Vp rs q) (h : p ≠ q) : 0 < dist rs p q := Nat.pos_of_ne_zero fun e => h (dist_zero h1 h2 e)
end Tw
namespace Tw
def stp (rs : Rds) (s : List Pt × Nat) (z : Pt × Nat) : List Pt × Nat := (s.1.set z.2 z.1, s.2 + dist rs (s.1.getD z.2 (0, 0)) z.1)
def pfold (rs : Rds) (c : List Pt) (zs : List (Pt × Nat)) : List Pt × Nat := zs.foldl (stp rs) (c, 0)
end Tw
namespace Tw
def leastN : List Nat → Nat
  | [] => 0
  | [x] => x
  | x :: y :: r => min x (leastN (y :: r))
end Tw
namespace Tw
section
variable {rs : Rds}
/-- the lesser two of three junctions are equal -/
theorem jn_tri {p q x : Pt} (hp_ : Vp rs p) (hq : Vp rs q) (hx : Vp rs x) : min (jn rs p q) (jn rs q x) ≤ jn rs p x := by
  have h1 := jn_le rs p q
  have h2 := jn_le rs q x
  have e1 := (meet_iff hp_ hq (t := min (jn rs p q) (jn rs q x)) (by omega) (by omega)).mpr (by omega)
  have e2 := (meet_iff hq hx (t := min (jn rs p q) (jn rs q x)) (by omega) (by omega)).mpr (by omega)
  exact (meet_iff hp_ hx (by omega) (by omega)).mp (e1.trans e2)
theorem jn_sts {p q : Pt} (hp_ : Vp rs p) (hq : Vp rs q) {k : Nat} (hk : k ≤ hp rs p) : jn rs (sts rs k p) q = min (hp rs p - k) (jn rs p q) := by
  have hs := hp_.hp_sts (k := k) hk
  have vs := hp_.sts_ok (k := k)
  have jl := jn_le rs p q
  have jl2 := jn_le rs (sts rs k p) q
  have key : ∀ t, t ≤ hp rs p - k → t ≤ hp rs q → (t ≤ jn rs (sts rs k p) q ↔ t ≤ jn rs p q) := fun t h1 h2 => by
    rw [← meet_iff vs hq (by omega) h2, ← meet_iff hp_ hq (by omega) h2, sts_add, show k + (hp rs (sts rs k p) - t) = hp rs p - t by omega]
  have k1 := key (jn rs (sts rs k p) q) (by omega) (by omega)
  have k2 := key (min (hp rs p - k) (jn rs p q)) (by omega) (by omega)
  omega
/-- the point k steps from p towards x -/
def tw (rs : Rds) (p x : Pt) (k : Nat) : Pt := if k ≤ hp rs p - jn rs p x then sts rs k p else sts rs (dist rs p x - k) x
theorem tw_vp {p x : Pt} (h : Vp rs p) (hx : Vp rs x) (k : Nat) : Vp rs (tw rs p x k) := by
  unfold tw
  by_cases c : k ≤ hp rs p - jn rs p x
  · rw [if_pos c]; exact h.sts_ok
  · rw [if_neg c]; exact hx.sts_ok
theorem tw_dist {p x : Pt} (h : Vp rs p) (hx : Vp rs x) {k : Nat} (hk : k ≤ dist rs p x) : dist rs (tw rs p x k) x = dist rs p x - k ∧ dist rs p (tw rs p x k) = k := by
  have jl := jn_le rs p x
  unfold tw
  by_cases c : k ≤ hp rs p - jn rs p x
  · rw [if_pos c]
    have e1 := jn_sts h hx (k := k) (by omega)
    have e2 := jn_sts h h (k := k) (by omega)
    rw [jn_self] at e2
    have e3 := h.hp_sts (k := k) (by omega)
    rw [dist_comm rs p (sts rs k p)]
    unfold dist
    rw [e1, e2]
    omega
  · rw [if_neg c]
    have hd : dist rs p x = hp rs p + hp rs x - 2 * jn rs p x := rfl
    have e1 := jn_sts hx hx (k := dist rs p x - k) (by omega)
    rw [jn_self] at e1
    have e2 := jn_sts hx h (k := dist rs p x - k) (by omega)
    rw [jn_comm rs x p] at e2
    have e3 := hx.hp_sts (k := dist rs p x - k) (by omega)
    rw [dist_comm rs p (sts rs (dist rs p x - k) x)]
    have d1 : dist rs (sts rs (dist rs p x - k) x) x = hp rs (sts rs (dist rs p x - k) x) + hp rs x - 2 * jn rs (sts rs (dist rs p x - k) x) x := rfl
    have d2 : dist rs (sts rs (dist rs p x - k) x) p = hp rs (sts rs (dist rs p x - k) x) + hp rs p - 2 * jn rs (sts rs (dist rs p x - k) x) p := rfl
    rw [d1, d2, e1, e2]
    omega
theorem dist_tri {p q x : Pt} (h1 : Vp rs p) (h2 : Vp rs q) (h3 : Vp rs x) : dist rs p x ≤ dist rs p q + dist rs q x := by
  have j1 := jn_tri h1 h2 h3
  have l1 := jn_le rs p q
  have l2 := jn_le rs q x
  have l3 := jn_le rs p x
  unfold dist
  omega
/-- on the way: the point so far from the beginning -/
theorem tw_uniq {p q x : Pt} (h1 : Vp rs p) (h2 : Vp rs q) (h3 : Vp rs x) (h : dist rs p q + dist rs q x = dist rs p x) : q = tw rs p x (dist rs p q) := by
  have j1 := jn_tri h1 h2 h3
  have j2 := jn_tri h2 h1 h3
  have j3 := jn_tri h1 h3 h2
  rw [jn_comm rs q p] at j2
  rw [jn_comm rs x q] at j3
  have l1 := jn_le rs p q
  have l2 := jn_le rs q x
  have l3 := jn_le rs p x
  have hd : dist rs p x = hp rs p + hp rs x - 2 * jn rs p x := rfl
  have hd1 : dist rs p q = hp rs p + hp rs q - 2 * jn rs p q := rfl
  have hd2 : dist rs q x = hp rs q + hp rs x - 2 * jn rs q x := rfl
  unfold tw
  have anc : ∀ {u v : Pt}, Vp rs u → Vp rs v → jn rs u v = hp rs v → sts rs (hp rs u - hp rs v) u = v := fun {u v} hu hv e => by
    have := (meet_iff hu hv (t := hp rs v) (by have := jn_le rs u v; omega) (Nat.le_refl _)).mpr (by omega)
    rw [Nat.sub_self] at this
    exact this
  by_cases c : dist rs p q ≤ hp rs p - jn rs p x
  · rw [if_pos c]
    by_cases c2 : jn rs p q = hp rs q
    · have := anc h1 h2 c2
      rw [show dist rs p q = hp rs p - hp rs q by omega]
      exact this.symm
    · have e : jn rs q x = hp rs q := by omega
      exfalso
      omega
  · rw [if_neg c]
    have e : jn rs x q = hp rs q := by rw [jn_comm]; omega
    have := anc h3 h2 e
    rw [show dist rs p x - dist rs p q = hp rs x - hp rs q by omega]
    exact this.symm
theorem tw_tw {p x : Pt} (h : Vp rs p) (hx : Vp rs x) {i k : Nat} (hk : i + k ≤ dist rs p x) : tw rs (tw rs p x i) x k = tw rs p x (i + k) := by
  have v1 := tw_vp h hx i
  have v2 := tw_vp v1 hx k
  obtain ⟨a1, a2⟩ := tw_dist h hx (k := i) (by omega)
  obtain ⟨b1, b2⟩ := tw_dist v1 hx (k := k) (by omega)
  have t1 := dist_tri h v1 v2
  have t2 := dist_tri h v2 hx
  have e : dist rs p (tw rs (tw rs p x i) x k) = i + k := by omega
  have := tw_uniq h v2 hx (by omega)
  rw [e] at this
  exact this
/-- how far from x the ways of p and q to it meet -/
def gr (rs : Rds) (x p q : Pt) : Nat := (dist rs p x + dist rs q x - dist rs p q) / 2
theorem gr_two {x p q : Pt} (hx : Vp rs x) (h : Vp rs p) (hq : Vp rs q) : 2 * gr rs x p q + dist rs p q = dist rs p x + dist rs q x := by
  have j1 := jn_tri h hx hq
  have j2 := jn_tri h hq hx
  have j3 := jn_tri hq h hx
  rw [jn_comm rs x q] at j1
  rw [jn_comm rs q p] at j3
  have l1 := jn_le rs p q
  have l2 := jn_le rs q x
  have l3 := jn_le rs p x
  unfold gr dist
  omega
end
end Tw
namespace Tw
abbrev at_ (c : List Pt) (i : Nat) : Pt := c.getD i (0, 0)
/-- p is on the way of q to x -/
def onw (rs : Rds) (x q p : Pt) : Prop := dist rs q p + dist rs p x = dist rs q x
/-- j stands between i and x -/
def Blk (rs : Rds) (x : Pt) (c : List Pt) (i j : Nat) : Prop := (at_ c j = at_ c i ∧ j < i) ∨ (at_ c j ≠ at_ c i ∧ onw rs x (at_ c i) (at_ c j))
def Sees (rs : Rds) (x : Pt) (c : List Pt) (i : Nat) : Prop := ∀ j, j < c.length → ¬ Blk rs x c i j
def Vc (rs : Rds) (c : List Pt) : Prop := ∀ q ∈ c, Vp rs q
section
variable {rs : Rds} {x : Pt} {c : List Pt}
theorem Vc.at_ (h : Vc rs c) {i : Nat} (hi : i < c.length) : Vp rs (Tw.at_ c i) := by
  rw [Tw.at_, List.getD_eq_getElem?_getD, List.getElem?_eq_getElem hi]; exact h _ (List.getElem_mem hi)
theorem Vc.of {d : List Pt} (h : ∀ i, i < d.length → Vp rs (Tw.at_ d i)) : Vc rs d := fun q hq => by
  obtain ⟨i, hi, rfl⟩ := List.getElem_of_mem hq
  have := h i hi
  rwa [Tw.at_, List.getD_eq_getElem?_getD, List.getElem?_eq_getElem hi] at this
open Classical in
noncomputable def seersL (rs : Rds) (x : Pt) (c : List Pt) : List Nat := (List.range c.length).filter fun i => decide (Sees rs x c i)
open Classical in
/-- all who see go k steps -/
noncomputable def stepK (rs : Rds) (x : Pt) (c : List Pt) (k : Nat) : List Pt := (List.range c.length).map fun i => if Sees rs x c i then tw rs (at_ c i) x k else at_ c i
/-- step by step: the crew and the way -/
noncomputable def run1 (rs : Rds) (x : Pt) (c : List Pt) : Nat → List Pt × Nat
  | 0 => (c, 0)
  | k + 1 => (stepK rs x (run1 rs x c k).1 1, (run1 rs x c k).2 + (seersL rs x (run1 rs x c k).1).length)
end
end Tw
namespace Tw
theorem sts_in {rs : Rds} {v : Nat} (h0 : v ≠ 0) : ∀ (k u : Nat), u + k < len rs v → sts rs k (v, u) = (v, u + k)
  | 0, _, _ => rfl
  | k + 1, u, h => by
    have e : st rs (v, u) = (v, u + 1) := by unfold st; rw [if_neg h0, if_neg (by show ¬ u + 1 = len rs v; omega)]
    show sts rs k (st rs (v, u)) = _
    rw [e, sts_in h0 k (u + 1) (by omega), show u + 1 + k = u + (k + 1) by omega]
theorem sts_up {rs : Rds} {v u : Nat} (h0 : v ≠ 0) (h : u < len rs v) : sts rs (len rs v - u) (v, u) = (par rs v, 0) := by
  have e := sts_in (rs := rs) h0 (len rs v - u - 1) u (by omega)
  rw [show len rs v - u = (len rs v - u - 1) + 1 by omega, ← sts_one, e]
  unfold st
  rw [if_neg h0, if_pos (by show u + (len rs v - u - 1) + 1 = len rs v; omega)]
end Tw
namespace Tw
end Tw
namespace Tw
section
variable {rs : Rds} {x : Pt} {c : List Pt}
open Classical in
/-- the steps that i has gone at time k -/
noncomputable def mv (rs : Rds) (x : Pt) (c : List Pt) : Nat → Nat → Nat
  | 0, _ => 0
  | k + 1, i => mv rs x c k i + if Sees rs x (run1 rs x c k).1 i then 1 else 0
/-- i's steps to the place where it meets j's way -/
def own (rs : Rds) (x : Pt) (c : List Pt) (i j : Nat) : Nat := dist rs (at_ c i) x - gr rs x (at_ c i) (at_ c j)
end
end Tw
namespace Tw
end Tw
namespace Tw
/-- x lies on p's way to the root -/
def Und (rs : Rds) (x p : Pt) : Prop := hp rs x ≤ hp rs p ∧ sts rs (hp rs p - hp rs x) p = x
instance (rs : Rds) (x p : Pt) : Decidable (Und rs x p) := by unfold Und; infer_instance
/-- all points but the root; each stands for the step above it -/
def allP (rs : Rds) : List Pt := (List.range rs.length).flatMap fun i => (List.range (len rs (i + 1))).map fun u => (i + 1, u)
theorem mem_allP {rs : Rds} {x : Pt} : x ∈ allP rs ↔ Vp rs x ∧ x.1 ≠ 0 := by
  unfold allP Vp
  rw [List.mem_flatMap]
  constructor
  · rintro ⟨i, hi, h⟩
    obtain ⟨u, hu, rfl⟩ := List.mem_map.mp h
    have := List.mem_range.mp hi
    exact ⟨⟨by show i + 1 ≤ _; omega, List.mem_range.mp hu⟩, Nat.succ_ne_zero i⟩
  · rintro ⟨⟨h1, h2⟩, h3⟩
    refine ⟨x.1 - 1, List.mem_range.mpr (by omega), List.mem_map.mpr ⟨x.2, ?_, ?_⟩⟩
    · rw [show x.1 - 1 + 1 = x.1 by omega]; exact List.mem_range.mpr h2
    · rw [show x.1 - 1 + 1 = x.1 by omega]
theorem len_le_of {α : Type} [DecidableEq α] : ∀ {xs ys : List α}, xs.Nodup → (∀ a ∈ xs, a ∈ ys) → xs.length ≤ ys.length
  | [], _, _, _ => Nat.zero_le _
  | x :: xs, ys, h, k => by
    obtain ⟨h1, h2⟩ := List.nodup_cons.mp h
    have hx := k x List.mem_cons_self
    have ih := len_le_of (ys := ys.erase x) h2 fun a ha => (List.mem_erase_of_ne (fun e => h1 (by rw [← e]; exact ha))).mpr (k a (List.mem_cons_of_mem _ ha))
    rw [List.length_erase_of_mem hx] at ih
    have := List.length_pos_of_mem hx
    rw [List.length_cons]
    omega
theorem len_eq_of {α : Type} [DecidableEq α] {xs ys : List α} (h1 : xs.Nodup) (h2 : ys.Nodup) (k : ∀ a, a ∈ xs ↔ a ∈ ys) : xs.length = ys.length :=
  Nat.le_antisymm (len_le_of h1 fun a h => (k a).mp h) (len_le_of h2 fun a h => (k a).mpr h)
section
variable {rs : Rds}
/-- how many of c are below the step at x -/
def cnt (rs : Rds) (x : Pt) (c : List Pt) : Nat := (c.filter fun p => Und rs x p).length
end
end Tw
namespace Tw
/-- the first node below v on n's way to the root -/
def upv (rs : Rds) (v n : Nat) : Nat := if h : n < v ∨ n = 0 then n else upv rs v (par rs n)
termination_by n
decreasing_by exact par_lt (fun e => h (.inr e))
end Tw
namespace Tw
abbrev Hl := Nat × Nat
/-- h has a partner among ps -/
def Prd (ps : List (Nat × Nat)) (h : Hl) : Prop := (h.1 = 0 ∧ ∃ m, (h.2, m) ∈ ps) ∨ (h.1 = 1 ∧ ∃ k, (k, h.2) ∈ ps)
/-- a stack over a region -/
structure Stk (n : Nat) (R : Hl → Prop) (σ : List Hl) (ps : List (Nat × Nat)) : Prop where
  mem : ∀ h ∈ σ, h.1 ≤ 1 ∧ h.2 < n ∧ R h ∧ ¬ Prd ps h
  hom : ∀ h ∈ σ, ∀ g ∈ σ, h.1 = g.1
  nd : σ.Nodup
  all : ∀ h : Hl, h.1 ≤ 1 → h.2 < n → R h → ¬ Prd ps h → h ∈ σ
  cl : ∀ z ∈ ps, R (0, z.1) ↔ R (1, z.2)
/-- x is not paired within U -/
def Out (U : Hl → Prop) (ps : List (Nat × Nat)) (x : Hl) : Prop := ∀ z ∈ ps, (x = (0, z.1) → ¬ U (1, z.2)) ∧ (x = (1, z.2) → ¬ U (0, z.1))
/-- all helpers in U that are not paired within U are of one side -/
def Saf (n : Nat) (U : Hl → Prop) (ps : List (Nat × Nat)) : Prop := ∀ x y : Hl, x.1 ≤ 1 → x.2 < n → U x → Out U ps x → y.1 ≤ 1 → y.2 < n → U y → Out U ps y → x.1 = y.1
end Tw
namespace Tw
/-- the pairs so far are of helpers, no helper twice -/
structure Psk (n : Nat) (ps : List (Nat × Nat)) : Prop where
  n1 : (ps.map Prod.fst).Nodup
  n2 : (ps.map Prod.snd).Nodup
  lt : ∀ z ∈ ps, z.1 < n ∧ z.2 < n
section
variable {rs : Rds} {n : Nat} {pl : Hl → Pt}
/-- who has come up to w when the nodes from t on are done -/
def Reg (rs : Rds) (pl : Hl → Pt) (t w : Nat) (h : Hl) : Prop := t ≤ (pl h).1 ∧ upv rs t (pl h).1 = w
/-- when the nodes from t on are done -/
structure Inv (rs : Rds) (n : Nat) (pl : Hl → Pt) (t : Nat) (W : Nat → List Hl) (ps : List (Nat × Nat)) : Prop where
  psk : Psk n ps
  lo : ∀ x : Hl, x.1 ≤ 1 → (pl x).1 < t → ¬ Prd ps x
  stk : ∀ w, w < t → Stk n (Reg rs pl t w) (W w) ps
  saf : ∀ x, Vp rs x → t ≤ x.1 → Saf n (fun h => Und rs x (pl h)) ps
end
end Tw
namespace Tw
open Sm
def cL (o : List Nat) : List Int := o.map fun (n : Nat) => (n : Int)
theorem cL_len (o : List Nat) : (cL o).length = o.length := List.length_map _
theorem cL_app (a b : List Nat) : cL (a ++ b) = cL a ++ cL b := List.map_append
theorem cL_inj {a b : List Nat} (h : cL a = cL b) : a = b := (List.map_inj_right (f := fun (n : Nat) => (n : Int)) fun x y e => by have e : (x : Int) = (y : Int) := e; omega).mp h
/-- k put at each place of a row -/
def ins (k : Nat) (row : List Nat) : List (List Nat) := (List.range (row.length + 1)).map fun pl => row.take pl ++ [k] ++ row.drop pl
def ords : Nat → List (List Nat)
  | 0 => [[]]
  | k + 1 => (ords k).flatMap (ins k)
theorem ords_mem : ∀ {k : Nat} {l : List Nat}, l ∈ ords k ↔ l.Perm (List.range k)
  | 0, l => by
    show l ∈ [[]] ↔ l.Perm []
    rw [List.mem_singleton, List.perm_nil]
  | k + 1, l => by
    show l ∈ (ords k).flatMap (ins k) ↔ _
    rw [List.mem_flatMap, List.range_succ]
    constructor
    · rintro ⟨row, h1, h2⟩
      obtain ⟨pl, _, rfl⟩ := List.mem_map.mp h2
      have h1 := ords_mem.mp h1
      have e : (row.take pl ++ [k] ++ row.drop pl).Perm (k :: row) := by
        have := List.perm_middle (a := k) (l₁ := row.take pl) (l₂ := row.drop pl)
        rw [List.take_append_drop] at this
        rw [List.append_assoc]
        exact this
      exact e.trans ((h1.cons k).trans (List.perm_append_singleton k _).symm)
    · intro h
      have hk : k ∈ l := h.mem_iff.mpr (List.mem_append_right _ (List.mem_singleton.mpr rfl))
      obtain ⟨a, b, rfl⟩ := List.append_of_mem hk
      have e : (a ++ b).Perm (List.range k) := (List.Perm.cons_inv (a := k) (List.perm_middle.symm.trans (h.trans (List.perm_append_singleton k _))))
      refine ⟨a ++ b, ords_mem.mpr e, List.mem_map.mpr ⟨a.length, List.mem_range.mpr (by rw [List.length_append]; omega), ?_⟩⟩
      simp
/-- what an order costs -/
def costO (rs : Rds) (c d : List Pt) (o : List Nat) : Nat := ((List.range c.length).map fun k => dist rs (at_ c k) (at_ d (o.getD k 0))).sum
end Tw
namespace Tw
open Sm
/-- the least cost of all orders -/
def lc (rs : Rds) (c d : List Pt) : Nat := leastN ((ords c.length).map (costO rs c d))
end Tw
namespace Tw
open Sm
end Tw
namespace Tw
end Tw
namespace Tw
open Sm
section
variable {rs : Rds}
/-- who has come up to w when the nodes from t on are done -/
def RegP (rs : Rds) (t w : Nat) (p : Pt) : Prop := t ≤ p.1 ∧ upv rs t p.1 = w
instance (t w : Nat) (p : Pt) : Decidable (RegP rs t w p) := by unfold RegP; infer_instance
/-- those, and who stands on v's road below u -/
def RegU (rs : Rds) (v u : Nat) (p : Pt) : Prop := RegP rs (v + 1) v p ∨ (p.1 = v ∧ p.2 < u)
instance (v u : Nat) (p : Pt) : Decidable (RegU rs v u p) := by unfold RegU; infer_instance
end
end Tw
namespace Tw
open Sm
structure Grid (rs : Rds) (P : List Pt) (A : List Nat) : Prop where
  len : A.length = P.length
  pos : 1 ≤ P.length
  z : at_ P 0 = (0, 0)
  za : A.getD 0 0 = 0
  vp : ∀ i, i < P.length → Vp rs (at_ P i)
  up : ∀ i, i < P.length → i ≠ 0 → (at_ P i).1 ≠ 0 ∧ A.getD i 0 < i ∧ at_ P (A.getD i 0) = st rs (at_ P i)
  inj : ∀ i j, i < P.length → j < P.length → at_ P i = at_ P j → i = j
theorem at_app {P : List Pt} {x : Pt} {i : Nat} (h : i < P.length) : at_ (P ++ [x]) i = at_ P i := by
  unfold at_
  rw [List.getD_eq_getElem?_getD, List.getD_eq_getElem?_getD, List.getElem?_append_left h]
theorem at_last {P : List Pt} {x : Pt} : at_ (P ++ [x]) P.length = x := by
  unfold at_
  rw [List.getD_eq_getElem?_getD, List.getElem?_append_right (Nat.le_refl _), Nat.sub_self]; rfl
theorem gd_app {A : List Nat} {x i : Nat} (h : i < A.length) : (A ++ [x]).getD i 0 = A.getD i 0 := by
  rw [List.getD_eq_getElem?_getD, List.getD_eq_getElem?_getD, List.getElem?_append_left h]
theorem gd_last {A : List Nat} {x : Nat} : (A ++ [x]).getD A.length 0 = x := by
  rw [List.getD_eq_getElem?_getD, List.getElem?_append_right (Nat.le_refl _), Nat.sub_self]; rfl
theorem at_mem {P : List Pt} {i : Nat} (h : i < P.length) : at_ P i ∈ P := by
  unfold at_
  rw [List.getD_eq_getElem?_getD, List.getElem?_eq_getElem h]
  exact List.getElem_mem h
section
variable {rs : Rds} {P : List Pt} {A : List Nat}
theorem Grid.snoc (g : Grid rs P A) {x : Pt} {l : Nat} (vx : Vp rs x) (x0 : x.1 ≠ 0) (hl : l < P.length) (e : at_ P l = st rs x) (n : x ∉ P) : Grid rs (P ++ [x]) (A ++ [l]) := by
  have gp := g.pos
  have gl := g.len
  have lt : ∀ i, i < (P ++ [x]).length → i < P.length ∨ i = P.length := fun i hi => by
    rw [List.length_append, List.length_singleton] at hi
    omega
  have last : at_ (P ++ [x]) P.length = x := at_last
  have glast : (A ++ [l]).getD P.length 0 = l := by rw [← gl]; exact gd_last
  refine ⟨by rw [List.length_append, List.length_append, gl]; rfl, by rw [List.length_append]; omega, by rw [at_app (by omega), g.z], by rw [gd_app (by omega), g.za], fun i hi => ?_, fun i hi h0 => ?_, fun i j hi hj h => ?_⟩
  · rcases lt i hi with h | h
    · rw [at_app h]; exact g.vp i h
    · rw [h, last]; exact vx
  · rcases lt i hi with h | h
    · obtain ⟨a, b, c⟩ := g.up i h h0
      rw [at_app h, gd_app (by omega), at_app (by omega)]
      exact ⟨a, b, c⟩
    · rw [h, last, glast, at_app hl]
      exact ⟨x0, hl, e⟩
  · rcases lt i hi with a | a <;> rcases lt j hj with b | b
    · rw [at_app a, at_app b] at h
      exact g.inj i j a b h
    · rw [b, last, at_app a] at h
      exact absurd (by rw [← h]; exact at_mem a) n
    · rw [a, last, at_app b] at h
      exact absurd (by rw [h]; exact at_mem b) n
    · omega
/-- who is on whose way up has the lesser number -/
theorem Grid.anc (g : Grid rs P A) : ∀ (k q : Nat), q < P.length → k ≤ hp rs (at_ P q) → ∃ p, p ≤ q ∧ at_ P p = sts rs k (at_ P q) ∧ (k ≠ 0 → p < q)
  | 0, q, _, _ => ⟨q, Nat.le_refl _, rfl, fun h => absurd rfl h⟩
  | k + 1, q, hq, hk => by
    obtain ⟨p, h1, h2, _⟩ := g.anc k q hq (by omega)
    have vq := g.vp q hq
    have hh := vq.hp_sts (k := k) (by omega)
    have p0 : p ≠ 0 := fun e => by
      rw [e, g.z] at h2
      rw [← h2, hp_zero] at hh
      omega
    obtain ⟨_, a, b⟩ := g.up p (by omega) p0
    refine ⟨A.getD p 0, by omega, ?_, fun _ => by omega⟩
    rw [b, h2, sts_one]
theorem Grid.num (g : Grid rs P A) {i j : Nat} (hi : i < P.length) (hj : j < P.length) : at_ P i = at_ P j ↔ i = j := ⟨g.inj i j hi hj, fun e => by rw [e]⟩
/-- from the root's side the way is one step shorter -/
theorem dist_st {p q : Pt} (vp : Vp rs p) (vq : Vp rs q) (h0 : p.1 ≠ 0) (hj : jn rs p q < hp rs p) : dist rs p q = dist rs (st rs p) q + 1 := by
  have h1 := vp.hp_pos h0
  have e := jn_sts vp vq (k := 1) h1
  have hh := vp.hp_sts (k := 1) h1
  have jl := jn_le rs p q
  have hs : st rs p = sts rs 1 p := rfl
  rw [hs]
  unfold dist
  rw [e]
  omega
theorem Grid.jn_lt (g : Grid rs P A) {p q : Nat} (hp_ : p < P.length) (hq : q < p) : jn rs (at_ P p) (at_ P q) < hp rs (at_ P p) := by
  have jl := jn_le rs (at_ P p) (at_ P q)
  have vp := g.vp p hp_
  have vq := g.vp q (by omega)
  by_cases e : jn rs (at_ P p) (at_ P q) = hp rs (at_ P p)
  · exfalso
    have m := (meet_iff vp vq (t := hp rs (at_ P p)) (Nat.le_refl _) (by omega)).mpr (by omega)
    rw [Nat.sub_self] at m
    obtain ⟨r, h1, h2, _⟩ := g.anc (hp rs (at_ P q) - hp rs (at_ P p)) q (by omega) (by omega)
    have : at_ P r = at_ P p := by rw [h2, ← m]; rfl
    have := g.inj r p (by omega) hp_ this
    omega
  · omega
/-- the table's rule -/
theorem Grid.row (g : Grid rs P A) {p q : Nat} (hp_ : p < P.length) (hq : q < p) : dist rs (at_ P p) (at_ P q) = dist rs (at_ P (A.getD p 0)) (at_ P q) + 1 := by
  obtain ⟨a, b, c⟩ := g.up p hp_ (by omega)
  rw [c]
  exact dist_st (g.vp p hp_) (g.vp q (by omega)) a (g.jn_lt hp_ hq)
end
end Tw
namespace Tw
open Sm
end Tw
namespace Tw
end Tw
namespace Tw
/-- l: different places, all but one -/
structure Holes (P l : List Pt) : Prop where
  nd : P.Nodup
  ld : l.Nodup
  sub : ∀ p ∈ l, p ∈ P
  len : P.length = l.length + 1
def freeP (P l : List Pt) : Pt := at_ (P.filter fun p => decide (p ∉ l)) 0
variable {rs : Rds} {P l c : List Pt}
theorem Holes.single (h : Holes P l) : P.filter (fun p => decide (p ∉ l)) = [freeP P l] := by
  have a : (P.filter fun p => decide (p ∈ l)).length = l.length := by
    refine len_eq_of (h.nd.filter _) h.ld fun p => ?_
    rw [List.mem_filter]
    exact ⟨fun z => of_decide_eq_true z.2, fun z => ⟨h.sub p z, decide_eq_true z⟩⟩
  have b : ∀ Q : List Pt, (Q.filter fun p => decide (p ∈ l)).length + (Q.filter fun p => decide (p ∉ l)).length = Q.length := by
    intro Q
    induction Q with
    | nil => rfl
    | cons p Q ih =>
      by_cases z : p ∈ l
      · rw [List.filter_cons_of_pos (by simpa using z), List.filter_cons_of_neg (by simpa using z), List.length_cons, List.length_cons]; omega
      · rw [List.filter_cons_of_neg (by simpa using z), List.filter_cons_of_pos (by simpa using z), List.length_cons, List.length_cons]; omega
  have e := b P
  have hl := h.len
  obtain ⟨x, hx⟩ : ∃ x, P.filter (fun p => decide (p ∉ l)) = [x] := List.length_eq_one_iff.mp (by omega)
  unfold freeP
  rw [hx]; rfl
theorem Holes.free (h : Holes P l) : freeP P l ∈ P ∧ freeP P l ∉ l := by
  have e : freeP P l ∈ P.filter (fun p => decide (p ∉ l)) := by rw [h.single]; exact List.mem_cons_self
  obtain ⟨h1, h2⟩ := List.mem_filter.mp e
  exact ⟨h1, of_decide_eq_true h2⟩
theorem Holes.one (h : Holes P l) {p : Pt} (hp : p ∈ P) (n : p ∉ l) : p = freeP P l := by
  have e : p ∈ P.filter (fun p => decide (p ∉ l)) := List.mem_filter.mpr ⟨hp, decide_eq_true n⟩
  rw [h.single] at e
  exact List.mem_singleton.mp e
end Tw
namespace Tw
end Tw
namespace Tw
end Tw
namespace Tw
open Sm
section
variable {α : Type} [Enc α] [DecidableEq α] [EqE α] [OrdE α]
/-- a strict order of all -/
class Strict (α : Type) [Enc α] [OrdE α] : Prop where
  irr : ∀ x : α, OrdE.lt x x = false
  tr : ∀ x y z : α, OrdE.lt x y = true → OrdE.lt y z = true → OrdE.lt x z = true
  tot : ∀ x y : α, OrdE.lt x y = false → OrdE.lt y x = false → x = y
theorem Strict.le {β : Type} [Enc β] [OrdE β] [Strict β] {x y z : β} (h : OrdE.lt y x = false) (k : OrdE.lt z y = false) : OrdE.lt z x = false := by
  cases e : OrdE.lt z x with
  | false => rfl
  | true =>
    cases f : OrdE.lt x y with
    | true => rw [Strict.tr z x y e f] at k; cases k
    | false => rw [Strict.tot x y f h] at e; rw [e] at k; cases k
instance : Strict Int := ⟨fun x => by show decide (x < x) = false; simp, fun x y z h k => by
  have h : decide (x < y) = true := h
  have k : decide (y < z) = true := k
  show decide (x < z) = true
  simp at h k ⊢; omega, fun x y h k => by
  have h : decide (x < y) = false := h
  have k : decide (y < x) = false := k
  simp at h k; omega⟩
theorem ltL_irr [Strict α] : ∀ xs : List α, ltL xs xs = false
  | [] => rfl
  | x :: xs => by rw [ltL, if_pos rfl]; exact ltL_irr xs
theorem ltL_tr [Strict α] : ∀ xs ys zs : List α, ltL xs ys = true → ltL ys zs = true → ltL xs zs = true
  | [], _, [], _, k => by
    rename_i ys h
    cases ys <;> simp [ltL] at h k
  | [], _, _ :: _, _, _ => by simp [ltL]
  | x :: xs, [], _, h, _ => by simp [ltL] at h
  | x :: xs, y :: ys, [], _, k => by simp [ltL] at k
  | x :: xs, y :: ys, z :: zs, h, k => by
    rw [ltL] at h k ⊢
    by_cases e1 : x = y
    · subst e1
      rw [if_pos rfl] at h
      by_cases e2 : x = z
      · subst e2
        rw [if_pos rfl] at k ⊢
        exact ltL_tr xs ys zs h k
      · rw [if_neg e2] at k ⊢
        exact k
    · rw [if_neg e1] at h
      by_cases e2 : y = z
      · subst e2
        rw [if_neg e1]
        exact h
      · rw [if_neg e2] at k
        have t := Strict.tr x y z h k
        by_cases e3 : x = z
        · subst e3
          rw [Strict.irr] at t; cases t
        · rw [if_neg e3]; exact t
theorem ltL_tot [Strict α] : ∀ xs ys : List α, ltL xs ys = false → ltL ys xs = false → xs = ys
  | [], [], _, _ => rfl
  | [], _ :: _, h, _ => by simp [ltL] at h
  | _ :: _, [], _, k => by simp [ltL] at k
  | x :: xs, y :: ys, h, k => by
    rw [ltL] at h k
    by_cases e : x = y
    · subst e
      rw [if_pos rfl] at h k
      rw [ltL_tot xs ys h k]
    · rw [if_neg e] at h
      rw [if_neg (Ne.symm e)] at k
      exact absurd (Strict.tot x y h k) e
instance [Strict α] : Strict (List α) := ⟨ltL_irr, ltL_tr, ltL_tot⟩
instance {β : Type} [Enc β] [DecidableEq β] [EqE β] [OrdE β] [Strict α] [Strict β] : Strict (α × β) := ⟨fun x => by
  show ltP x x = false
  unfold ltP
  rw [if_pos rfl]; exact Strict.irr _, fun x y z h k => by
  have h : ltP x y = true := h
  have k : ltP y z = true := k
  show ltP x z = true
  unfold ltP at h k ⊢
  by_cases e1 : x.1 = y.1
  · rw [if_pos e1] at h
    by_cases e2 : y.1 = z.1
    · rw [if_pos e2] at k
      rw [if_pos (e1.trans e2)]
      exact Strict.tr _ _ _ h k
    · rw [if_neg e2] at k
      rw [if_neg (by rw [e1]; exact e2), e1]
      exact k
  · rw [if_neg e1] at h
    by_cases e2 : y.1 = z.1
    · rw [← e2, if_neg e1]
      exact h
    · rw [if_neg e2] at k
      have t := Strict.tr _ _ _ h k
      by_cases e3 : x.1 = z.1
      · rw [e3, Strict.irr] at t; cases t
      · rw [if_neg e3]; exact t, fun x y h k => by
  have h : ltP x y = false := h
  have k : ltP y x = false := k
  unfold ltP at h k
  by_cases e : x.1 = y.1
  · rw [if_pos e] at h
    rw [if_pos e.symm] at k
    exact Prod.ext e (Strict.tot _ _ h k)
  · rw [if_neg e] at h
    rw [if_neg (Ne.symm e)] at k
    exact absurd (Strict.tot _ _ h k) e⟩
end
def okP (n m : Nat) (p : List Nat) : Prop := p.length = m ∧ ∀ i ∈ p, i < n
def plS (rs : Rds) (c w : List Pt) (p : List Nat) : List Pt × Nat := pfold rs c (w.zip p)
def ipt (p : Pt) : Int × Int := ((p.1 : Int), (p.2 : Int))
def eV (v : Nat × List Nat) : Int × List Int := ((v.1 : Int), cL v.2)
def BW (rs : Rds) (c w : List Pt) (b : Nat) : Prop := (∃ p, okP c.length w.length p ∧ (plS rs c w p).2 = b) ∧ ∀ p, okP c.length w.length p → b ≤ (plS rs c w p).2
def BP (rs : Rds) (c w : List Pt) (p : List Nat) : Prop := okP c.length w.length p ∧ ∀ q, okP c.length w.length q → OrdE.lt (eV ((plS rs c w q).2, q)) (eV ((plS rs c w p).2, p)) = false
def WK (rs : Rds) (c w e : List Pt) (b : Nat) : Prop := (∃ p, okP c.length w.length p ∧ (plS rs c w p).2 + lc rs (plS rs c w p).1 e = b) ∧ ∀ p, okP c.length w.length p → b ≤ (plS rs c w p).2 + lc rs (plS rs c w p).1 e
theorem BW.one {rs : Rds} {c w : List Pt} {a b : Nat} (h : BW rs c w a) (k : BW rs c w b) : a = b := by
  obtain ⟨⟨p, h1, h2⟩, h3⟩ := h
  obtain ⟨⟨q, k1, k2⟩, k3⟩ := k
  have := h3 q k1
  have := k3 p h1
  omega
theorem WK.one {rs : Rds} {c w e : List Pt} {a b : Nat} (h : WK rs c w e a) (k : WK rs c w e b) : a = b := by
  obtain ⟨⟨p, h1, h2⟩, h3⟩ := h
  obtain ⟨⟨q, k1, k2⟩, k3⟩ := k
  have := h3 q k1
  have := k3 p h1
  omega
theorem BP.one {rs : Rds} {c w : List Pt} {p q : List Nat} (h : BP rs c w p) (k : BP rs c w q) : p = q := by
  have := Strict.tot _ _ (k.2 p h.1) (h.2 q k.1)
  exact cL_inj (congrArg Prod.snd this)
end Tw
namespace Tw
open PySem Sm
section
variable {rs : Rds}
/-- +1 down, -1 up -/
def sgn (p a : Pt) : Int := if p = a then -1 else 1
end
end Tw
namespace Tw
open PySem Sm
section
variable {rs : Rds}
theorem okP.cons {n m k : Nat} {p : List Nat} (h : okP n m p) (hk : k < n) : okP n (m + 1) (k :: p) := ⟨by rw [List.length_cons, h.1], fun i hi => by
  rcases List.mem_cons.mp hi with rfl | hi
  · exact hk
  · exact h.2 i hi⟩
theorem okP.app {n a b : Nat} {p q : List Nat} (h : okP n a p) (k : okP n b q) : okP n (a + b) (p ++ q) := ⟨by rw [List.length_append, h.1, k.1], fun i hi => (List.mem_append.mp hi).elim (h.2 i) (k.2 i)⟩
theorem okP.take {n a : Nat} {p : List Nat} (h : okP n a p) {t : Nat} (ht : t ≤ a) : okP n t (p.take t) := ⟨by rw [List.length_take, h.1]; omega, fun i hi => h.2 i (List.mem_of_mem_take hi)⟩
theorem okP.drop {n a : Nat} {p : List Nat} (h : okP n a p) (t : Nat) : okP n (a - t) (p.drop t) := ⟨by rw [List.length_drop, h.1], fun i hi => h.2 i (List.mem_of_mem_drop hi)⟩
theorem Vc.set {c : List Pt} (vc : Vc rs c) {j : Nat} {x : Pt} (vx : Vp rs x) : Vc rs (c.set j x) := fun q hq => by
  rcases List.mem_or_eq_of_mem_set hq with h | rfl
  · exact vc q h
  · exact vx
end
end Tw
namespace Tw
open PySem Sm
end Tw
namespace Tw
open PySem Sm
end Tw
namespace Tw
open PySem Sm
section
theorem perm_nd {α : Type} [DecidableEq α] : ∀ {xs ys : List α}, xs.Nodup → ys.Nodup → (∀ a, a ∈ xs ↔ a ∈ ys) → xs.Perm ys
  | [], ys, _, _, h => by
    cases ys with
    | nil => exact .nil
    | cons y ys => exact absurd ((h y).mpr List.mem_cons_self) (by simp)
  | x :: xs, ys, h1, h2, h => by
    have m : x ∈ ys := (h x).mp List.mem_cons_self
    have p := List.perm_cons_erase m
    rw [List.nodup_cons] at h1
    have nd : (ys.erase x).Nodup := (List.nodup_cons.mp (p.nodup_iff.mp h2)).2
    refine ((perm_nd h1.2 nd fun a => ?_).cons x).trans p.symm
    have nx : x ∉ ys.erase x := (List.nodup_cons.mp (p.nodup_iff.mp h2)).1
    have e : a ∈ ys ↔ a ∈ x :: ys.erase x := p.mem_iff
    have k := h a
    rw [e] at k
    constructor
    · intro ha
      rcases List.mem_cons.mp (k.mp (List.mem_cons_of_mem _ ha)) with rfl | q
      · exact absurd ha h1.1
      · exact q
    · intro ha
      rcases List.mem_cons.mp (k.mpr (List.mem_cons_of_mem _ ha)) with rfl | q
      · exact absurd ha nx
      · exact q
end
end Tw
namespace Tw
open PySem Sm
end Tw
namespace Tw
open PySem Sm
section
variable {rs : Rds}
/-- a table of numbers by points -/
structure Tab (rs : Rds) (T : List ((Int × Int) × Int)) (f : Pt → Int) : Prop where
  nd : (T.map (·.1)).Nodup
  vp : ∀ k ∈ T.map (·.1), ∃ x, Vp rs x ∧ k = ipt x
  val : ∀ x, (dgetL T (ipt x)).getD 0 = f x
theorem Tab.nil : Tab rs [] fun _ => 0 := ⟨List.nodup_nil, fun _ h => by simp at h, fun _ => rfl⟩
theorem Tab.len {T : List ((Int × Int) × Int)} {f : Pt → Int} (h : Tab rs T f) : T.length ≤ (allP rs).length + 1 := by
  have := len_le_of (xs := T.map (·.1)) (ys := ((0, 0) :: allP rs).map ipt) h.nd fun k hk => by
    obtain ⟨x, vx, rfl⟩ := h.vp k hk
    refine List.mem_map_of_mem ?_
    by_cases z : x.1 = 0
    · rw [vx.zero z]; exact List.mem_cons_self
    · exact List.mem_cons_of_mem _ (mem_allP.mpr ⟨vx, z⟩)
  rw [List.length_map, List.length_map, List.length_cons] at this
  exact this
end
end Tw
namespace Tw
open PySem Sm
section
variable {rs : Rds}
def Sep (rs : Rds) (x p q : Pt) : Prop := (Und rs x p ∧ ¬ Und rs x q) ∨ (Und rs x q ∧ ¬ Und rs x p)
noncomputable instance (x p q : Pt) : Decidable (Sep rs x p q) := Classical.propDecidable _
/-- a table of counts, none zero -/
structure TabN (rs : Rds) (T : List ((Int × Int) × Int)) (f : Pt → Nat) : Prop where
  tab : Tab rs T fun x => (f x : Int)
  pos : ∀ x, ipt x ∈ T.map (·.1) → 0 < f x
theorem TabN.nil : TabN rs [] fun _ => 0 := ⟨Tab.nil, fun _ h => by simp at h⟩
end
end Tw
namespace Tw
open PySem Sm
end Tw
namespace Tw
open PySem Sm
open Enc (enc)
def rI : PyData → Bool
  | .int _ => true
  | .bool _ => true
  | _ => false
end Tw
namespace Tw
open PySem Sm
end Tw
namespace Tw
open PySem Sm
open Enc (enc)
end Tw
namespace Tw
open PySem Sm PySem.NumText PyProof.Rows
end Tw
namespace Tw
structure Simi (rs rs' : Rds) (g : Pt → Pt) (k : Nat) : Prop where
  pos : 1 ≤ k
  vp : ∀ p, Vp rs p → Vp rs' (g p)
  ds : ∀ p q, Vp rs p → Vp rs q → dist rs' (g p) (g q) = k * dist rs p q
section
variable {rs rs' : Rds} {g : Pt → Pt} {k : Nat}
theorem at_mapG {c : List Pt} {i : Nat} (hi : i < c.length) : at_ (c.map g) i = g (at_ c i) := by
  rw [at_, at_, List.getD_eq_getElem?_getD, List.getD_eq_getElem?_getD, List.getElem?_map, List.getElem?_eq_getElem hi]; rfl
theorem Simi.inj (S : Simi rs rs' g k) {p q : Pt} (hp_ : Vp rs p) (hq : Vp rs q) (h : g p = g q) : p = q := by
  refine dist_zero hp_ hq ?_
  have e := S.ds p q hp_ hq
  rw [h, dist_self] at e
  rcases Nat.mul_eq_zero.mp e.symm with z | z
  · have := S.pos; omega
  · exact z
theorem Simi.tw (S : Simi rs rs' g k) {p x : Pt} (hp_ : Vp rs p) (hx : Vp rs x) {i : Nat} (hi : i ≤ dist rs p x) : Tw.tw rs' (g p) (g x) (k * i) = g (Tw.tw rs p x i) := by
  have v := tw_vp hp_ hx i
  obtain ⟨d1, d2⟩ := tw_dist hp_ hx hi
  have e1 := S.ds p _ hp_ v
  have e2 := S.ds _ x v hx
  have e3 := S.ds p x hp_ hx
  have u := tw_uniq (S.vp p hp_) (S.vp _ v) (S.vp x hx) (by rw [e1, e2, e3, d1, d2, ← Nat.mul_add]; congr 1; omega)
  rw [e1, d2] at u
  exact u.symm
theorem Simi.gr (S : Simi rs rs' g k) {x p q : Pt} (hx : Vp rs x) (hp_ : Vp rs p) (hq : Vp rs q) : Tw.gr rs' (g x) (g p) (g q) = k * Tw.gr rs x p q := by
  have e1 := gr_two hx hp_ hq
  have e2 := gr_two (S.vp x hx) (S.vp p hp_) (S.vp q hq)
  rw [S.ds p q hp_ hq, S.ds p x hp_ hx, S.ds q x hq hx, ← Nat.mul_add, ← e1, Nat.mul_add] at e2
  have : k * (2 * Tw.gr rs x p q) = 2 * (k * Tw.gr rs x p q) := Nat.mul_left_comm _ _ _
  omega
theorem leastN_mul (h : 1 ≤ k) : ∀ xs : List Nat, leastN (xs.map (k * ·)) = k * leastN xs
  | [] => by simp [leastN]
  | [x] => rfl
  | x :: y :: r => by
    have ih := leastN_mul h (y :: r)
    show min (k * x) (leastN ((y :: r).map (k * ·))) = k * min x (leastN (y :: r))
    rw [ih]
    rcases Nat.le_total x (leastN (y :: r)) with l | l
    · rw [Nat.min_eq_left l, Nat.min_eq_left (Nat.mul_le_mul_left k l)]
    · rw [Nat.min_eq_right l, Nat.min_eq_right (Nat.mul_le_mul_left k l)]
theorem idxOf_map {α β : Type} [BEq α] [LawfulBEq α] [BEq β] [LawfulBEq β] {f : α → β} : ∀ {xs : List α} {y : α}, (∀ x ∈ xs, f x = f y → x = y) → (xs.map f).idxOf (f y) = xs.idxOf y
  | [], _, _ => rfl
  | x :: xs, y, h => by
    rw [List.map_cons, List.idxOf_cons, List.idxOf_cons, idxOf_map fun z hz => h z (List.mem_cons_of_mem _ hz)]
    by_cases e : x = y
    · subst e; simp
    · have e' : f x ≠ f y := fun z => e (h x List.mem_cons_self z)
      rw [beq_eq_false_iff_ne.mpr e, beq_eq_false_iff_ne.mpr e']
theorem Simi.own (S : Simi rs rs' g k) {c : List Pt} {x : Pt} (hc : Vc rs c) (hx : Vp rs x) {i j : Nat} (hi : i < c.length) (hj : j < c.length) : Tw.own rs' (g x) (c.map g) i j = k * Tw.own rs x c i j := by
  unfold Tw.own
  rw [at_mapG hi, at_mapG hj, S.ds _ x (hc.at_ hi) hx, S.gr hx (hc.at_ hi) (hc.at_ hj), Nat.mul_sub]
theorem map_sum_mul {f g : Nat → Nat} : ∀ {xs : List Nat}, (∀ i ∈ xs, f i = k * g i) → (xs.map f).sum = k * (xs.map g).sum
  | [], _ => by simp
  | x :: xs, h => by
    rw [List.map_cons, List.map_cons, List.sum_cons, List.sum_cons, map_sum_mul fun i hi => h i (List.mem_cons_of_mem _ hi), h x List.mem_cons_self, Nat.mul_add]
theorem Simi.costO (S : Simi rs rs' g k) {c d : List Pt} (hc : Vc rs c) (hd : Vc rs d) (hl : d.length = c.length) {o : List Nat} (ho : o.Perm (List.range c.length)) : Tw.costO rs' (c.map g) (d.map g) o = k * Tw.costO rs c d o := by
  unfold Tw.costO
  rw [List.length_map]
  refine map_sum_mul fun i hi => ?_
  have hi := List.mem_range.mp hi
  have ol : o.length = c.length := by rw [ho.length_eq, List.length_range]
  have hm : o.getD i 0 < c.length := by
    rw [List.getD_eq_getElem?_getD, List.getElem?_eq_getElem (by omega)]
    exact List.mem_range.mp (ho.mem_iff.mp (List.getElem_mem (by omega)))
  rw [at_mapG hi, at_mapG (by omega), S.ds _ _ (hc.at_ hi) (hd.at_ (by omega))]
theorem Simi.lc (S : Simi rs rs' g k) {c d : List Pt} (hc : Vc rs c) (hd : Vc rs d) (hl : d.length = c.length) : Tw.lc rs' (c.map g) (d.map g) = k * Tw.lc rs c d := by
  unfold Tw.lc
  rw [List.length_map, ← leastN_mul S.pos, List.map_map]
  congr 1
  exact List.map_congr_left fun o ho => S.costO hc hd hl (ords_mem.mp ho)
end
end Tw
namespace Tw
section
variable {rs rs' : Rds} {g : Pt → Pt} {k : Nat} {P l : List Pt}
theorem Simi.idx (S : Simi rs rs' g k) {c : List Pt} {x : Pt} (hc : Vc rs c) (hx : Vp rs x) : (c.map g).idxOf (g x) = c.idxOf x := idxOf_map fun y hy e => S.inj (hc y hy) hx e
end
end Tw
namespace Tw
section
variable {rs : Rds}
theorem lca_dich {v : Nat} (h0 : v ≠ 0) : ∀ (n w : Nat), w ≤ n → lca rs v w = v ∨ ht rs (lca rs v w) ≤ ht rs (par rs v)
  | n, w, h => by
    rcases Nat.lt_trichotomy v w with l | e | l
    · have pl := par_lt (rs := rs) (v := w) (by omega)
      have ih := lca_dich h0 (n - 1) (par rs w) (by omega)
      rw [lca_lt l]
      exact ih
    · exact .inl (lca_eq e)
    · right
      rw [lca_gt l]
      exact (lca_ht _ _ _ (Nat.le_refl _)).1
  termination_by n w => w
theorem lca_own {v w : Nat} (h0 : v ≠ 0) (ne : w ≠ v) (h : lca rs v w = v) : v < w ∧ ht rs v ≤ ht rs (par rs w) := by
  have l0 := len_pos rs v
  have hv := ht_pos (rs := rs) h0
  rcases Nat.lt_trichotomy v w with l | e | l
  · refine ⟨l, ?_⟩
    rw [lca_lt l] at h
    have := (lca_ht (rs := rs) _ v (par rs w) (Nat.le_refl _)).2
    rw [h] at this
    exact this
  · exact absurd e.symm ne
  · exfalso
    rw [lca_gt l] at h
    have := (lca_ht (rs := rs) _ (par rs v) w (Nat.le_refl _)).1
    rw [h] at this
    omega
/-- nothing meets the road of v within, but what stands on it -/
theorem jn_dich {v : Nat} {q : Pt} (h0 : v ≠ 0) (hv : v ≤ rs.length) (hq : Vp rs q) (hs : q.1 ≠ v ∨ q.2 = 0) : jn rs (v, 0) q ≤ ht rs (par rs v) ∨ jn rs (v, 0) q = ht rs v := by
  have ht' := ht_pos (rs := rs) h0
  by_cases e : q.1 = v
  · have : q = (v, 0) := Prod.ext e (by rcases hs with z | z; exact absurd e z; exact z)
    right
    rw [this, jn_self]; rfl
  · rcases lca_dich (rs := rs) h0 _ q.1 (Nat.le_refl _) with z | z
    · right
      obtain ⟨lt, up⟩ := lca_own h0 e z
      have hq' := ht_pos (rs := rs) (v := q.1) (by omega)
      have := hq.2
      unfold jn
      dsimp only
      rw [z]
      unfold hp
      dsimp only
      omega
    · left
      unfold jn
      dsimp only
      omega
theorem par_sts {v : Nat} (h0 : v ≠ 0) : sts rs (len rs v) (v, 0) = (par rs v, 0) := by
  have := sts_up (rs := rs) (u := 0) h0 (len_pos rs v)
  exact this
theorem par_ok {v : Nat} (hv : v ≤ rs.length) : Vp rs (par rs v, 0) := Vp.node (Nat.le_trans (par_le rs v) hv)
/-- both ends of a road, seen from elsewhere -/
theorem ends_dich {v : Nat} {q : Pt} (h0 : v ≠ 0) (hv : v ≤ rs.length) (hq : Vp rs q) (hs : q.1 ≠ v ∨ q.2 = 0) : dist rs (v, 0) q = dist rs (par rs v, 0) q + len rs v ∨ dist rs (par rs v, 0) q = dist rs (v, 0) q + len rs v := by
  have ht' := ht_pos (rs := rs) h0
  have vv : Vp rs (v, 0) := Vp.node hv
  have e1 := jn_sts (rs := rs) vv hq (k := len rs v) (by unfold hp; dsimp only; omega)
  rw [par_sts h0] at e1
  have le := (jn_le rs (v, 0) q).2
  have hv' : hp rs (v, 0) = ht rs v := rfl
  have hp' : hp rs (par rs v, 0) = ht rs (par rs v) := rfl
  unfold dist
  rcases jn_dich h0 hv hq hs with z | z <;> omega
theorem dist_mid {v u : Nat} {q : Pt} (hp_ : Vp rs (v, u)) (h0 : v ≠ 0) (hq : Vp rs q) (hs : q.1 ≠ v ∨ q.2 = 0) : dist rs (v, u) q = min (u + dist rs (v, 0) q) (len rs v - u + dist rs (par rs v, 0) q) := by
  have hv : v ≤ rs.length := hp_.1
  have hu : u < len rs v := hp_.2
  have ht' := ht_pos (rs := rs) h0
  have vv : Vp rs (v, 0) := Vp.node hv
  have e1 := jn_sts (rs := rs) vv hq (k := len rs v) (by unfold hp; dsimp only; omega)
  rw [par_sts h0] at e1
  have e2 := jn_sts (rs := rs) vv hq (k := u) (by unfold hp; dsimp only; omega)
  rw [sts_in h0 u 0 (by omega), Nat.zero_add] at e2
  have le := (jn_le rs (v, 0) q).2
  have hv' : hp rs (v, 0) = ht rs v := rfl
  have hu' : hp rs (v, u) = ht rs v - u := rfl
  have hp' : hp rs (par rs v, 0) = ht rs (par rs v) := rfl
  unfold dist
  rcases jn_dich h0 hv hq hs with z | z <;> omega
theorem dist_par {v : Nat} (h0 : v ≠ 0) (hv : v ≤ rs.length) : dist rs (v, 0) (par rs v, 0) = len rs v := by
  have := dist_up (rs := rs) (u := 0) (Vp.node hv) (par_ok hv) (par_lt h0)
  rw [dist_self] at this
  exact this
def Adj (rs : Rds) (a b : Nat) : Prop := (b ≠ 0 ∧ par rs b = a) ∨ (a ≠ 0 ∧ par rs a = b)
theorem Adj.symm {a b : Nat} (h : Adj rs a b) : Adj rs b a := h.elim .inr .inl
def eL (rs : Rds) (a b : Nat) : Nat := dist rs (a, 0) (b, 0)
theorem adj_len {a b : Nat} (h : Adj rs a b) (ha : a ≤ rs.length) (hb : b ≤ rs.length) : (b ≠ 0 ∧ par rs b = a ∧ eL rs a b = len rs b) ∨ (a ≠ 0 ∧ par rs a = b ∧ eL rs a b = len rs a) := by
  rcases h with ⟨h1, h2⟩ | ⟨h1, h2⟩
  · refine .inl ⟨h1, h2, ?_⟩
    unfold eL
    rw [dist_comm, ← h2]
    exact dist_par h1 hb
  · refine .inr ⟨h1, h2, ?_⟩
    unfold eL
    rw [← h2]
    exact dist_par h1 ha
theorem adj_pos {a b : Nat} (h : Adj rs a b) (ha : a ≤ rs.length) (hb : b ≤ rs.length) : 1 ≤ eL rs a b := by
  rcases adj_len h ha hb with ⟨_, _, e⟩ | ⟨_, _, e⟩ <;> rw [e] <;> exact len_pos _ _
theorem adj_dich {a b : Nat} (h : Adj rs a b) (ha : a ≤ rs.length) (hb : b ≤ rs.length) {u : Nat} (hu : u ≤ rs.length) : dist rs (u, 0) (b, 0) = dist rs (u, 0) (a, 0) + eL rs a b ∨ dist rs (u, 0) (a, 0) = dist rs (u, 0) (b, 0) + eL rs a b := by
  have vu : Vp rs (u, 0) := Vp.node hu
  rcases adj_len h ha hb with ⟨h0, e, l⟩ | ⟨h0, e, l⟩
  · have := ends_dich h0 hb vu (.inr rfl)
    rw [e, dist_comm rs (b, 0), dist_comm rs (a, 0)] at this
    rw [l]
    exact this
  · have := ends_dich h0 ha vu (.inr rfl)
    rw [e, dist_comm rs (b, 0), dist_comm rs (a, 0)] at this
    rw [l]
    exact this.symm
theorem on_two {u v p q : Pt} (hu : Vp rs u) (hv : Vp rs v) (hp_ : Vp rs p) (hq : Vp rs q) (h1 : dist rs u p + dist rs p v = dist rs u v) (h2 : dist rs u q + dist rs q v = dist rs u v) (le : dist rs u p ≤ dist rs u q) : dist rs p q = dist rs u q - dist rs u p := by
  have e1 := tw_uniq hu hp_ hv h1
  have e2 := tw_uniq hu hq hv h2
  have t := tw_tw hu hv (i := dist rs u p) (k := dist rs u q - dist rs u p) (by omega)
  rw [← e1, show dist rs u p + (dist rs u q - dist rs u p) = dist rs u q by omega, ← e2] at t
  have := (tw_dist hp_ hv (k := dist rs u q - dist rs u p) (by omega)).2
  rw [t] at this
  exact this
/-- w between u and v, beside v: so it is for what is beside u -/
theorem adj_step {u u' v w : Nat} (hu : u ≤ rs.length) (hu' : u' ≤ rs.length) (hv : v ≤ rs.length) (hw : w ≤ rs.length) (a : Adj rs u u') (b : Adj rs w v) (ne : u' ≠ v)
    (h : dist rs (u, 0) (v, 0) = dist rs (u, 0) (w, 0) + eL rs w v) : dist rs (u', 0) (v, 0) = dist rs (u', 0) (w, 0) + eL rs w v := by
  rcases adj_dich b hw hv hu' with z | z
  · exact z
  · exfalso
    have l0 := adj_pos b hw hv
    have e0 := adj_pos a hu hu'
    have c1 := adj_dich a hu hu' hv
    have c2 := adj_dich a hu hu' hw
    rw [dist_comm rs (v, 0), dist_comm rs (v, 0)] at c1
    rw [dist_comm rs (w, 0), dist_comm rs (w, 0)] at c2
    have vu : Vp rs (u, 0) := Vp.node hu
    have vu' : Vp rs (u', 0) := Vp.node hu'
    have vv : Vp rs (v, 0) := Vp.node hv
    have vw : Vp rs (w, 0) := Vp.node hw
    have eE : dist rs (u, 0) (u', 0) = eL rs u u' := rfl
    have eW : dist rs (w, 0) (v, 0) = eL rs w v := rfl
    have pos : 0 < dist rs (u', 0) (v, 0) := dist_pos vu' vv fun e => ne (congrArg Prod.fst e)
    rcases c1 with c1 | c1
    · rcases c2 with c2 | c2 <;> omega
    · rcases c2 with c2 | c2
      · have o1 : dist rs (u, 0) (u', 0) + dist rs (u', 0) (v, 0) = dist rs (u, 0) (v, 0) := by omega
        have o2 : dist rs (u, 0) (w, 0) + dist rs (w, 0) (v, 0) = dist rs (u, 0) (v, 0) := by omega
        rcases Nat.le_total (dist rs (u, 0) (u', 0)) (dist rs (u, 0) (w, 0)) with l | l
        · have := on_two vu vv vu' vw o1 o2 l
          omega
        · have := on_two vu vv vw vu' o2 o1 l
          rw [dist_comm] at this
          omega
      · omega
abbrev oi (O : List Nat) (k : Nat) : Nat := O.getD k 0
structure Ords (rs : Rds) (O : List Nat) : Prop where
  nd : O.Nodup
  le : ∀ v ∈ O, v ≤ rs.length
  par : ∀ k, 0 < k → k < O.length → ∃ m, m < k ∧ Adj rs (oi O m) (oi O k)
theorem oi_mem {O : List Nat} {k : Nat} (h : k < O.length) : oi O k ∈ O := by
  rw [oi, List.getD_eq_getElem?_getD, List.getElem?_eq_getElem h]; exact List.getElem_mem h
theorem oi_get {O : List Nat} {k : Nat} (h : k < O.length) : O[k]? = some (oi O k) := by
  rw [oi, List.getD_eq_getElem?_getD, List.getElem?_eq_getElem h]; rfl
theorem oi_inj {O : List Nat} (nd : O.Nodup) {i j : Nat} (hi : i < O.length) (hj : j < O.length) (h : oi O i = oi O j) : i = j := by
  rw [oi, oi, List.getD_eq_getElem?_getD, List.getD_eq_getElem?_getD, List.getElem?_eq_getElem hi, List.getElem?_eq_getElem hj] at h
  have h : O[i] = O[j] := h
  have pw := List.pairwise_iff_getElem.mp nd
  rcases Nat.lt_trichotomy i j with l | e | l
  · exact absurd h (pw i j hi hj l)
  · exact e
  · exact absurd h.symm (pw j i hj hi l)
/-- one beside it, v, that is not among the first ones: the way to it goes by w -/
theorem Ords.by_ {O : List Nat} (h : Ords rs O) {j v m : Nat} (hj : j ≤ O.length) (hv : v ≤ rs.length) (out : ∀ i, i < j → oi O i ≠ v) (hm : m < j) (b : Adj rs (oi O m) v) : ∀ i, i < j → dist rs (oi O i, 0) (v, 0) = dist rs (oi O i, 0) (oi O m, 0) + eL rs (oi O m) v := by
  have lo : ∀ i, i < j → oi O i ≤ rs.length := fun i hi => h.le _ (oi_mem (by omega))
  have key : ∀ n i, i ≤ n → i < j → (dist rs (oi O i, 0) (v, 0) = dist rs (oi O i, 0) (oi O m, 0) + eL rs (oi O m) v ↔ dist rs (oi O 0, 0) (v, 0) = dist rs (oi O 0, 0) (oi O m, 0) + eL rs (oi O m) v) := by
    intro n
    induction n with
    | zero => intro i hi _; rw [show i = 0 by omega]
    | succ n ih =>
      intro i hi hij
      by_cases z : i = 0
      · rw [z]
      · obtain ⟨k, hk, a⟩ := h.par i (by omega) (by omega)
        rw [← ih k (by omega) (by omega)]
        exact ⟨adj_step (lo i hij) (lo k (by omega)) hv (lo m hm) a.symm b (out k (by omega)), adj_step (lo k (by omega)) (lo i hij) hv (lo m hm) a b (out i hij)⟩
  intro i hi
  have hm0 := (key m m (Nat.le_refl _) hm).mp (by rw [dist_self, Nat.zero_add]; rfl)
  exact (key i i (Nat.le_refl _) hi).mpr hm0
theorem Ords.one {O : List Nat} (h : Ords rs O) {j v m m' : Nat} (hj : j ≤ O.length) (hv : v ≤ rs.length) (out : ∀ i, i < j → oi O i ≠ v) (hm : m < j) (hm' : m' < j) (b : Adj rs (oi O m) v) (b' : Adj rs (oi O m') v) : m = m' := by
  have e1 := h.by_ hj hv out hm b m' hm'
  have e2 := h.by_ hj hv out hm' b' m hm
  have lo : ∀ i, i < j → oi O i ≤ rs.length := fun i hi => h.le _ (oi_mem (by omega))
  have c := dist_comm rs (oi O m, 0) (oi O m', 0)
  have d1 : dist rs (oi O m', 0) (v, 0) = eL rs (oi O m') v := rfl
  have d2 : dist rs (oi O m, 0) (v, 0) = eL rs (oi O m) v := rfl
  have := dist_zero (Vp.node (lo m hm)) (Vp.node (lo m' hm')) (by omega)
  exact oi_inj h.nd (by omega) (by omega) (congrArg Prod.fst this)
end
end Tw
namespace Tw
instance (rs : Rds) (a b : Nat) : Decidable (Adj rs a b) := by unfold Adj; infer_instance
def parO (rs : Rds) (O : List Nat) (k : Nat) : Nat := ((List.range k).filter fun m => decide (Adj rs (oi O m) (oi O k))).headD 0
def hungR (rs : Rds) (O : List Nat) : Rds := (List.range rs.length).map fun i => ((parO rs O (i + 1) : Int), (eL rs (oi O (parO rs O (i + 1))) (oi O (i + 1)) : Int))
abbrev ix (O : List Nat) (v : Nat) : Nat := O.idxOf v
def hungP (rs : Rds) (O : List Nat) (p : Pt) : Pt := if p.2 = 0 then (ix O p.1, 0) else if ix O (par rs p.1) < ix O p.1 then (ix O p.1, p.2) else (ix O (par rs p.1), len rs p.1 - p.2)
structure FullO (rs : Rds) (O : List Nat) : Prop extends Ords rs O where
  ln : O.length = rs.length + 1
  all : ∀ v, v ≤ rs.length → v ∈ O
section
variable {rs : Rds} {O : List Nat} {L : Nat}
theorem parO_ok (h : Ords rs O) {k : Nat} (h0 : 0 < k) (hk : k < O.length) : parO rs O k < k ∧ Adj rs (oi O (parO rs O k)) (oi O k) := by
  obtain ⟨m, hm, a⟩ := h.par k h0 hk
  have i : m ∈ (List.range k).filter fun m => decide (Adj rs (oi O m) (oi O k)) := List.mem_filter.mpr ⟨List.mem_range.mpr hm, decide_eq_true a⟩
  unfold parO
  cases e : (List.range k).filter fun m => decide (Adj rs (oi O m) (oi O k)) with
  | nil => rw [e] at i; cases i
  | cons x xs =>
    have : x ∈ (List.range k).filter fun m => decide (Adj rs (oi O m) (oi O k)) := by rw [e]; exact List.mem_cons_self
    obtain ⟨h1, h2⟩ := List.mem_filter.mp this
    exact ⟨List.mem_range.mp h1, of_decide_eq_true h2⟩
theorem hungR_len : (hungR rs O).length = rs.length := by unfold hungR; rw [List.length_map, List.length_range]
theorem hungR_at {i : Nat} (hi : i < rs.length) : (hungR rs O)[i]? = some ((parO rs O (i + 1) : Int), (eL rs (oi O (parO rs O (i + 1))) (oi O (i + 1)) : Int)) := by
  unfold hungR; rw [List.getElem?_map, List.getElem?_range hi]; rfl
theorem FullO.lo (h : FullO rs O) {k : Nat} (hk : k ≤ rs.length) : oi O k ≤ rs.length := h.le _ (oi_mem (by rw [h.ln]; omega))
theorem FullO.el (h : FullO rs O) (V : Vr rs (L : Int)) (hL : 1 ≤ L) {a b : Nat} (ab : Adj rs a b) (ha : a ≤ rs.length) (hb : b ≤ rs.length) : 1 ≤ eL rs a b ∧ eL rs a b ≤ L := by
  refine ⟨adj_pos ab ha hb, ?_⟩
  rcases adj_len ab ha hb with ⟨_, _, e⟩ | ⟨_, _, e⟩ <;> rw [e] <;> exact V.len_le hL _
theorem hungR_vr (h : FullO rs O) (V : Vr rs (L : Int)) (hL : 1 ≤ L) : Vr (hungR rs O) (L : Int) := fun i p l e => by
  have hi : i < rs.length := by
    have := (List.getElem?_eq_some_iff.mp e).1
    rwa [hungR_len] at this
  rw [hungR_at hi] at e
  cases e
  obtain ⟨h1, h2⟩ := parO_ok h.toOrds (k := i + 1) (by omega) (by rw [h.ln]; omega)
  obtain ⟨h3, h4⟩ := h.el V hL h2 (h.lo (by omega)) (h.lo (by omega))
  omega
theorem hung_par (h : FullO rs O) (V : Vr rs (L : Int)) (hL : 1 ≤ L) {k : Nat} (h0 : k ≠ 0) (hk : k ≤ rs.length) : par (hungR rs O) k = parO rs O k := by
  have := (hungR_vr h V hL).par_eq (hungR_at (rs := rs) (O := O) (i := k - 1) (by omega))
  rw [show k - 1 + 1 = k by omega] at this
  omega
theorem hung_len (h : FullO rs O) (V : Vr rs (L : Int)) (hL : 1 ≤ L) {k : Nat} (h0 : k ≠ 0) (hk : k ≤ rs.length) : len (hungR rs O) k = eL rs (oi O (parO rs O k)) (oi O k) := by
  have := (hungR_vr h V hL).len_eq (hungR_at (rs := rs) (O := O) (i := k - 1) (by omega))
  rw [show k - 1 + 1 = k by omega] at this
  omega
theorem hung_nodes (h : FullO rs O) (V : Vr rs (L : Int)) (hL : 1 ≤ L) : ∀ (n i j : Nat), i + j ≤ n → i ≤ rs.length → j ≤ rs.length → dist (hungR rs O) (i, 0) (j, 0) = dist rs (oi O i, 0) (oi O j, 0)
  | 0, i, j, hn, hi, hj => by
    rw [show i = 0 by omega, show j = 0 by omega, dist_self, dist_self]
  | n + 1, i, j, hn, hi, hj => by
    have step : ∀ i j, i + j ≤ n + 1 → i < j → j ≤ rs.length → dist (hungR rs O) (i, 0) (j, 0) = dist rs (oi O i, 0) (oi O j, 0) := fun i j hn hij hj => by
      obtain ⟨h1, h2⟩ := parO_ok h.toOrds (k := j) (by omega) (by rw [h.ln]; omega)
      have ih := hung_nodes h V hL n i (parO rs O j) (by omega) (by omega) (by omega)
      have up := dist_up (rs := hungR rs O) (v := j) (u := 0) (q := (i, 0)) (Vp.node (by rw [hungR_len]; exact hj)) (Vp.node (by rw [hungR_len]; omega)) hij
      rw [hung_par h V hL (by omega) hj, hung_len h V hL (by omega) hj, dist_comm _ (j, 0), dist_comm _ (parO rs O j, 0), ih] at up
      have by' := h.toOrds.by_ (j := j) (v := oi O j) (m := parO rs O j) (by rw [h.ln]; omega) (h.lo hj) (fun a ha e => by
        have := oi_inj h.nd (by rw [h.ln]; omega) (by rw [h.ln]; omega) e
        omega) h1 h2 i hij
      omega
    rcases Nat.lt_trichotomy i j with l | e | l
    · exact step i j hn l hj
    · rw [e, dist_self, dist_self]
    · rw [dist_comm, dist_comm rs]
      exact step j i (by omega) l hi
theorem FullO.ixl (h : FullO rs O) {v : Nat} (hv : v ≤ rs.length) : ix O v ≤ rs.length := by
  have := List.idxOf_lt_length_of_mem (h.all v hv)
  rw [h.ln] at this
  exact Nat.le_of_lt_succ this
theorem FullO.oix (h : FullO rs O) {v : Nat} (hv : v ≤ rs.length) : oi O (ix O v) = v := by
  have hl := List.idxOf_lt_length_of_mem (h.all v hv)
  rw [oi, List.getD_eq_getElem?_getD, List.getElem?_eq_getElem hl, List.getElem_idxOf hl]; rfl
theorem FullO.nn (h : FullO rs O) (V : Vr rs (L : Int)) (hL : 1 ≤ L) {v w : Nat} (hv : v ≤ rs.length) (hw : w ≤ rs.length) : dist (hungR rs O) (ix O v, 0) (ix O w, 0) = dist rs (v, 0) (w, 0) := by
  rw [hung_nodes h V hL _ _ _ (Nat.le_refl _) (h.ixl hv) (h.ixl hw), h.oix hv, h.oix hw]
/-- the road of v in the hung tree -/
theorem FullO.road (h : FullO rs O) (V : Vr rs (L : Int)) (hL : 1 ≤ L) {v : Nat} (h0 : v ≠ 0) (hv : v ≤ rs.length) :
    (ix O (par rs v) < ix O v ∧ par (hungR rs O) (ix O v) = ix O (par rs v) ∧ len (hungR rs O) (ix O v) = len rs v) ∨ (ix O v < ix O (par rs v) ∧ par (hungR rs O) (ix O (par rs v)) = ix O v ∧ len (hungR rs O) (ix O (par rs v)) = len rs v) := by
  have pv : par rs v ≤ rs.length := Nat.le_trans (par_le rs v) hv
  have pl := par_lt (rs := rs) h0
  have a : Adj rs (par rs v) v := .inl ⟨h0, rfl⟩
  have ea : eL rs (par rs v) v = len rs v := by
    unfold eL; rw [dist_comm]; exact dist_par h0 hv
  have ea' : eL rs v (par rs v) = len rs v := dist_par h0 hv
  have ne : ix O (par rs v) ≠ ix O v := fun e => by
    have := congrArg (oi O) e
    rw [h.oix pv, h.oix hv] at this
    omega
  have go : ∀ x y, x ≤ rs.length → y ≤ rs.length → Adj rs x y → eL rs x y = len rs v → ix O x < ix O y → par (hungR rs O) (ix O y) = ix O x ∧ len (hungR rs O) (ix O y) = len rs v := fun x y hx hy axy e lt => by
    have hy' := h.ixl hy
    obtain ⟨h1, h2⟩ := parO_ok h.toOrds (k := ix O y) (by omega) (by rw [h.ln]; omega)
    have q : parO rs O (ix O y) = ix O x := h.toOrds.one (j := ix O y) (v := y) (by rw [h.ln]; omega) hy (fun i hi z => by
      have := oi_inj h.nd (i := i) (j := ix O y) (by rw [h.ln]; omega) (by rw [h.ln]; omega) (by rw [h.oix hy]; exact z)
      omega) h1 lt (by rw [h.oix hy] at h2; exact h2) (by rw [h.oix hx]; exact axy)
    rw [hung_par h V hL (by omega) hy', hung_len h V hL (by omega) hy', q, h.oix hx, h.oix hy]
    exact ⟨rfl, e⟩
  rcases Nat.lt_or_ge (ix O (par rs v)) (ix O v) with l | l
  · exact .inl ⟨l, go _ _ pv hv a ea l⟩
  · have l : ix O v < ix O (par rs v) := by omega
    exact .inr ⟨l, go _ _ hv pv a.symm ea' l⟩
theorem hungP_node (v : Nat) : hungP rs O (v, 0) = (ix O v, 0) := if_pos rfl
theorem FullO.vp (h : FullO rs O) (V : Vr rs (L : Int)) (hL : 1 ≤ L) {p : Pt} (hp_ : Vp rs p) : Vp (hungR rs O) (hungP rs O p) := by
  unfold hungP
  by_cases z : p.2 = 0
  · rw [if_pos z]
    exact Vp.node (by rw [hungR_len]; exact h.ixl hp_.1)
  · have h0 : p.1 ≠ 0 := fun e => z (by rw [hp_.zero e])
    have := hp_.2
    have pv : par rs p.1 ≤ rs.length := Nat.le_trans (par_le rs p.1) hp_.1
    rw [if_neg z]
    rcases h.road V hL h0 hp_.1 with ⟨l, _, e⟩ | ⟨l, _, e⟩
    · rw [if_pos l]
      exact ⟨by rw [hungR_len]; exact h.ixl hp_.1, by dsimp only; rw [e]; exact hp_.2⟩
    · rw [if_neg (by omega)]
      exact ⟨by rw [hungR_len]; exact h.ixl pv, by dsimp only; rw [e]; omega⟩
/-- within a road: by its ends, here as there -/
theorem FullO.mid (h : FullO rs O) (V : Vr rs (L : Int)) (hL : 1 ≤ L) {v u : Nat} (hp_ : Vp rs (v, u)) (u0 : u ≠ 0) {q : Pt} (hq : Vp (hungR rs O) q) (hs : q.1 ≠ (hungP rs O (v, u)).1 ∨ q.2 = 0) :
    dist (hungR rs O) (hungP rs O (v, u)) q = min (u + dist (hungR rs O) (ix O v, 0) q) (len rs v - u + dist (hungR rs O) (ix O (par rs v), 0) q) := by
  have h0 : v ≠ 0 := fun e => u0 (congrArg Prod.snd (hp_.zero e))
  have vp := h.vp V hL hp_
  have hu : u < len rs v := hp_.2
  unfold hungP at vp hs ⊢
  dsimp only at vp hs ⊢
  rw [if_neg u0] at vp hs ⊢
  rcases h.road V hL h0 hp_.1 with ⟨l, e1, e2⟩ | ⟨l, e1, e2⟩
  · rw [if_pos l] at vp hs ⊢
    rw [dist_mid vp (by omega) hq hs, e1, e2]
  · rw [if_neg (by omega)] at vp hs ⊢
    rw [dist_mid vp (by omega) hq hs, e1, e2, Nat.min_comm]
    congr 1
    omega
theorem hung_simi (h : FullO rs O) (V : Vr rs (L : Int)) (hL : 1 ≤ L) : Simi rs (hungR rs O) (hungP rs O) 1 := by
  have mn : ∀ v u, Vp rs (v, u) → u ≠ 0 → ∀ w, w ≤ rs.length → dist (hungR rs O) (hungP rs O (v, u)) (ix O w, 0) = dist rs (v, u) (w, 0) := fun v u vp u0 w hw => by
    have h0 : v ≠ 0 := fun e => u0 (congrArg Prod.snd (vp.zero e))
    have pv : par rs v ≤ rs.length := Nat.le_trans (par_le rs v) vp.1
    have hv : v ≤ rs.length := vp.1
    rw [h.mid V hL vp u0 (Vp.node (by rw [hungR_len]; exact h.ixl hw)) (.inr rfl), dist_mid vp h0 (Vp.node hw) (.inr rfl), h.nn V hL hv hw, h.nn V hL pv hw]
  refine ⟨Nat.le_refl _, fun p hp_ => h.vp V hL hp_, fun p q hp_ hq => ?_⟩
  rw [Nat.one_mul]
  obtain ⟨v, u⟩ := p
  obtain ⟨w, t⟩ := q
  have hv : v ≤ rs.length := hp_.1
  have hw : w ≤ rs.length := hq.1
  by_cases u0 : u = 0
  · subst u0
    rw [hungP_node]
    by_cases t0 : t = 0
    · subst t0
      rw [hungP_node, h.nn V hL hv hw]
    · rw [dist_comm, mn w t hq t0 v hv, dist_comm]
  · have h0 : v ≠ 0 := fun e => u0 (congrArg Prod.snd (hp_.zero e))
    have pv : par rs v ≤ rs.length := Nat.le_trans (par_le rs v) hv
    by_cases t0 : t = 0
    · subst t0
      rw [hungP_node, mn v u hp_ u0 w hw]
    · have w0 : w ≠ 0 := fun e => t0 (congrArg Prod.snd (hq.zero e))
      have pw : par rs w ≤ rs.length := Nat.le_trans (par_le rs w) hw
      by_cases e : w = v
      · subst e
        have a1 := h.vp V hL hp_
        have a2 := h.vp V hL hq
        have r := dist_road hp_ hq
        have hu : u < len rs w := hp_.2
        have ht' : t < len rs w := hq.2
        unfold hungP at a1 a2 ⊢
        dsimp only at a1 a2 ⊢
        rw [if_neg u0] at a1 ⊢
        rw [if_neg t0] at a2 ⊢
        by_cases l : ix O (par rs w) < ix O w
        · rw [if_pos l] at a1 a2
          rw [if_pos l, if_pos l]
          have r' := dist_road a1 a2
          split at r <;> split at r' <;> omega
        · rw [if_neg l] at a1 a2
          rw [if_neg l, if_neg l]
          have r' := dist_road a1 a2
          split at r <;> split at r' <;> omega
      · have hs : (hungP rs O (w, t)).1 ≠ (hungP rs O (v, u)).1 := by
          have inj : ∀ x y, x ≤ rs.length → y ≤ rs.length → ix O x = ix O y → x = y := fun x y hx hy z => by
            have := congrArg (oi O) z
            rwa [h.oix hx, h.oix hy] at this
          have p1 := par_lt (rs := rs) h0
          have p2 := par_lt (rs := rs) w0
          unfold hungP
          dsimp only
          rw [if_neg u0, if_neg t0]
          intro z
          rcases h.road V hL h0 hv with ⟨l1, e1, _⟩ | ⟨l1, e1, _⟩
          · rw [if_pos l1] at z
            dsimp only at z
            rcases h.road V hL w0 hw with ⟨l2, e2, _⟩ | ⟨l2, e2, _⟩
            · rw [if_pos l2] at z
              exact e (inj _ _ hw hv z)
            · have nl : ¬ ix O (par rs w) < ix O w := by omega
              rw [if_neg nl] at z
              dsimp only at z
              rw [z, e1] at e2
              have := inj _ _ pw hv z
              have := inj _ _ pv hw e2
              omega
          · have nl1 : ¬ ix O (par rs v) < ix O v := by omega
            rw [if_neg nl1] at z
            rcases h.road V hL w0 hw with ⟨l2, e2, _⟩ | ⟨l2, e2, _⟩
            · rw [if_pos l2] at z
              dsimp only at z
              rw [z, e1] at e2
              have := inj _ _ hw pv z
              have := inj _ _ hv pw e2
              omega
            · have nl : ¬ ix O (par rs w) < ix O w := by omega
              rw [if_neg nl] at z
              dsimp only at z
              rw [z, e1] at e2
              exact e (inj _ _ hv hw e2).symm
        rw [h.mid V hL hp_ u0 (h.vp V hL hq) (.inl hs), dist_mid hp_ h0 hq (.inl e), dist_comm _ (ix O v, 0), dist_comm _ (ix O (par rs v), 0), mn w t hq t0 v hv, mn w t hq t0 _ pv, dist_comm rs (w, t), dist_comm rs (w, t)]
end
end Tw
namespace Tw
def linkL (rs : Rds) (a : Nat) : List Nat := (if 0 < a then [par rs a] else []) ++ ((List.range rs.length).map (1 + ·)).filter fun b => decide (par rs b = a)
section
variable {rs : Rds} {O R : List Nat}
theorem linkL_mem {a b : Nat} (ha : a ≤ rs.length) : b ∈ linkL rs a ↔ b ≤ rs.length ∧ Adj rs a b := by
  unfold linkL Adj
  rw [List.mem_append, List.mem_filter, List.mem_map]
  constructor
  · rintro (h | ⟨⟨i, hi, rfl⟩, h⟩)
    · by_cases z : 0 < a
      · rw [if_pos z] at h
        have := List.mem_singleton.mp h
        subst this
        exact ⟨Nat.le_trans (par_le rs a) ha, .inr ⟨by omega, rfl⟩⟩
      · rw [if_neg z] at h; cases h
    · have := List.mem_range.mp hi
      exact ⟨by omega, .inl ⟨by omega, of_decide_eq_true h⟩⟩
  · rintro ⟨hb, ⟨h0, h⟩ | ⟨h0, h⟩⟩
    · exact .inr ⟨⟨b - 1, List.mem_range.mpr (by omega), by omega⟩, decide_eq_true h⟩
    · left
      rw [if_pos (by omega), h]
      exact List.mem_cons_self
theorem linkL_nd {a : Nat} : (linkL rs a).Nodup := by
  unfold linkL
  refine List.nodup_append.mpr ⟨?_, ?_, ?_⟩
  · split
    · exact List.nodup_cons.mpr ⟨fun h => (by cases h), List.nodup_nil⟩
    · exact List.nodup_nil
  · refine List.Pairwise.filter _ ?_
    exact List.pairwise_map.mpr (List.nodup_range.imp fun h e => h (by omega))
  · intro x hx y hy e
    by_cases z : 0 < a
    · rw [if_pos z] at hx
      have hx := List.mem_singleton.mp hx
      obtain ⟨hy, h⟩ := List.mem_filter.mp hy
      obtain ⟨i, _, hi⟩ := List.mem_map.mp hy
      have h := of_decide_eq_true h
      have p1 := par_lt (rs := rs) (v := a) (by omega)
      have p2 := par_lt (rs := rs) (v := y) (by omega)
      omega
    · rw [if_neg z] at hx; cases hx
/-- the nodes of the next row -/
def nextL (rs : Rds) (O R : List Nat) : List Nat := R.flatMap fun u => (linkL rs u).filter fun m => decide (m ∉ O)
structure Bfs (rs : Rds) (O R : List Nat) : Prop extends Ords rs O where
  ne : O ≠ []
  sub : ∀ x ∈ R, x ∈ O
  rn : R.Nodup
  done : ∀ x ∈ O, x ∉ R → ∀ y, y ≤ rs.length → Adj rs x y → y ∈ O
theorem Bfs.start {r : Nat} (hr : r ≤ rs.length) : Bfs rs [r] [r] := by
  have nd : [r].Nodup := List.nodup_cons.mpr ⟨fun h => (by cases h), List.nodup_nil⟩
  refine ⟨⟨nd, fun v hv => ?_, fun k h0 hk => ?_⟩, by simp, fun x h => h, nd, fun x h1 h2 => absurd h1 h2⟩
  · rw [List.mem_singleton.mp hv]; exact hr
  · have : k < 1 := hk
    omega
theorem nextL_mem (h : Bfs rs O R) {y : Nat} : y ∈ nextL rs O R ↔ y ∉ O ∧ y ≤ rs.length ∧ ∃ u ∈ R, Adj rs u y := by
  unfold nextL
  rw [List.mem_flatMap]
  constructor
  · rintro ⟨u, hu, hy⟩
    obtain ⟨h1, h2⟩ := List.mem_filter.mp hy
    obtain ⟨h3, h4⟩ := (linkL_mem (h.le u (h.sub u hu))).mp h1
    exact ⟨of_decide_eq_true h2, h3, u, hu, h4⟩
  · rintro ⟨h1, h2, u, hu, h4⟩
    exact ⟨u, hu, List.mem_filter.mpr ⟨(linkL_mem (h.le u (h.sub u hu))).mpr ⟨h2, h4⟩, decide_eq_true h1⟩⟩
theorem mem_oi {x : Nat} (h : x ∈ O) : ∃ i, i < O.length ∧ oi O i = x := by
  obtain ⟨i, hi, e⟩ := List.getElem_of_mem h
  exact ⟨i, hi, by rw [oi, List.getD_eq_getElem?_getD, List.getElem?_eq_getElem hi, ← e]; rfl⟩
theorem Bfs.two (h : Bfs rs O R) {u u' y : Nat} (hu : u ∈ O) (hu' : u' ∈ O) (hy : y ≤ rs.length) (ny : y ∉ O) (a : Adj rs u y) (a' : Adj rs u' y) : u = u' := by
  obtain ⟨i, hi, rfl⟩ := mem_oi hu
  obtain ⟨j, hj, rfl⟩ := mem_oi hu'
  rw [h.toOrds.one (Nat.le_refl _) hy (fun k hk e => ny (by rw [← e]; exact oi_mem hk)) hi hj a a']
theorem Bfs.step (h : Bfs rs O R) {R' : List Nat} (p : R'.Perm (nextL rs O R)) : Bfs rs (O ++ R') R' := by
  have mem : ∀ y, y ∈ R' ↔ y ∉ O ∧ y ≤ rs.length ∧ ∃ u ∈ R, Adj rs u y := fun y => by rw [p.mem_iff]; exact nextL_mem h
  have nn : (nextL rs O R).Nodup := by
    unfold nextL
    refine List.pairwise_flatMap.mpr ⟨fun u _ => List.Pairwise.filter _ linkL_nd, h.rn.imp_of_mem fun {u u'} hu hu' ne x hx y hy e => ?_⟩
    subst e
    obtain ⟨h1, h2⟩ := List.mem_filter.mp hx
    obtain ⟨h3, _⟩ := List.mem_filter.mp hy
    obtain ⟨l1, a1⟩ := (linkL_mem (h.le u (h.sub u hu))).mp h1
    obtain ⟨_, a2⟩ := (linkL_mem (h.le u' (h.sub u' hu'))).mp h3
    exact ne (h.two (h.sub u hu) (h.sub u' hu') l1 (of_decide_eq_true h2) a1 a2)
  have rn : R'.Nodup := p.nodup_iff.mpr nn
  refine ⟨⟨List.nodup_append.mpr ⟨h.nd, rn, fun x hx y hy e => ((mem y).mp hy).1 (e ▸ hx)⟩, fun v hv => ?_, fun k h0 hk => ?_⟩, by simp [h.ne], fun x hx => List.mem_append.mpr (.inr hx), rn, fun x hx nx y hy a => ?_⟩
  · rcases List.mem_append.mp hv with hv | hv
    · exact h.le v hv
    · exact ((mem v).mp hv).2.1
  · have ol : ∀ i, i < O.length → oi (O ++ R') i = oi O i := fun i hi => by
      rw [oi, oi, List.getD_eq_getElem?_getD, List.getD_eq_getElem?_getD, List.getElem?_append_left hi]
    by_cases c : k < O.length
    · obtain ⟨m, hm, a⟩ := h.par k h0 c
      exact ⟨m, hm, by rw [ol m (by omega), ol k c]; exact a⟩
    · have hk' : oi (O ++ R') k ∈ R' := by
        rw [List.length_append] at hk
        rw [oi, List.getD_eq_getElem?_getD, List.getElem?_append_right (by omega), List.getElem?_eq_getElem (by omega)]
        exact List.getElem_mem _
      obtain ⟨_, _, u, hu, a⟩ := (mem _).mp hk'
      obtain ⟨i, hi, e⟩ := mem_oi (h.sub u hu)
      exact ⟨i, by omega, by rw [ol i hi, e]; exact a⟩
  · rcases List.mem_append.mp hx with hx | hx
    · by_cases c : x ∈ R
      · by_cases d : y ∈ O
        · exact List.mem_append.mpr (.inl d)
        · exact List.mem_append.mpr (.inr ((mem y).mpr ⟨d, hy, x, c, a⟩))
      · exact List.mem_append.mpr (.inl (h.done x hx c y hy a))
    · exact absurd hx nx
theorem Bfs.lenle (h : Bfs rs O R) : O.length ≤ rs.length + 1 := by
  have := len_le_of (xs := O) (ys := List.range (rs.length + 1)) h.nd fun v hv => List.mem_range.mpr (by have := h.le v hv; omega)
  rwa [List.length_range] at this
theorem Bfs.full (h : Bfs rs O []) : FullO rs O := by
  have cl : ∀ x ∈ O, ∀ y, y ≤ rs.length → Adj rs x y → y ∈ O := fun x hx => h.done x hx (fun z => by cases z)
  have down : ∀ n x, x ≤ n → x ∈ O → 0 ∈ O := by
    intro n
    induction n with
    | zero => intro x hx ho; rw [show x = 0 by omega] at ho; exact ho
    | succ n ih =>
      intro x hx ho
      by_cases z : x = 0
      · rw [z] at ho; exact ho
      · have := par_lt (rs := rs) z
        have hl := h.le x ho
        exact ih (par rs x) (by omega) (cl x ho _ (by omega) (.inr ⟨z, rfl⟩))
  have o0 : 0 ∈ O := by
    obtain ⟨x, xs, e⟩ : ∃ x xs, O = x :: xs := by
      cases e : O with
      | nil => exact absurd e h.ne
      | cons x xs => exact ⟨x, xs, rfl⟩
    exact down x x (Nat.le_refl _) (by rw [e]; exact List.mem_cons_self)
  have up : ∀ n v, v ≤ n → v ≤ rs.length → v ∈ O := by
    intro n
    induction n with
    | zero => intro v hv _; rw [show v = 0 by omega]; exact o0
    | succ n ih =>
      intro v hv hl
      by_cases z : v = 0
      · rw [z]; exact o0
      · have := par_lt (rs := rs) z
        exact cl _ (ih (par rs v) (by omega) (by omega)) v hl (.inl ⟨z, rfl⟩)
  refine ⟨h.toOrds, ?_, fun v hv => up v v (Nat.le_refl _) hv⟩
  have := len_eq_of (xs := O) (ys := List.range (rs.length + 1)) h.nd List.nodup_range fun v => ⟨fun hv => List.mem_range.mpr (by have := h.le v hv; omega), fun hv => up v v (Nat.le_refl _) (by have := List.mem_range.mp hv; omega)⟩
  rwa [List.length_range] at this
def lowE (rs : Rds) (O : List Nat) (v : Nat) : Nat := if ix O (par rs v) < ix O v then ix O v else ix O (par rs v)
theorem FullO.low {L : Nat} (h : FullO rs O) (V : Vr rs (L : Int)) (hL : 1 ≤ L) {v : Nat} (h0 : v ≠ 0) (hv : v ≤ rs.length) : lowE rs O v ≠ 0 ∧ lowE rs O v ≤ rs.length ∧ len (hungR rs O) (lowE rs O v) = len rs v := by
  have pv : par rs v ≤ rs.length := Nat.le_trans (par_le rs v) hv
  have i1 := h.ixl hv
  have i2 := h.ixl pv
  unfold lowE
  rcases h.road V hL h0 hv with ⟨l, _, e⟩ | ⟨l, _, e⟩
  · rw [if_pos l]; exact ⟨by omega, i1, e⟩
  · rw [if_neg (by omega)]; exact ⟨by omega, i2, e⟩
theorem FullO.low_inj {L : Nat} (h : FullO rs O) (V : Vr rs (L : Int)) (hL : 1 ≤ L) {v w : Nat} (h0 : v ≠ 0) (hv : v ≤ rs.length) (w0 : w ≠ 0) (hw : w ≤ rs.length) (z : lowE rs O w = lowE rs O v) : w = v := by
  have pv : par rs v ≤ rs.length := Nat.le_trans (par_le rs v) hv
  have pw : par rs w ≤ rs.length := Nat.le_trans (par_le rs w) hw
  have inj : ∀ x y, x ≤ rs.length → y ≤ rs.length → ix O x = ix O y → x = y := fun x y hx hy z => by
    have := congrArg (oi O) z
    rwa [h.oix hx, h.oix hy] at this
  have p1 := par_lt (rs := rs) h0
  have p2 := par_lt (rs := rs) w0
  unfold lowE at z
  rcases h.road V hL h0 hv with ⟨l1, e1, _⟩ | ⟨l1, e1, _⟩
  · rw [if_pos l1] at z
    rcases h.road V hL w0 hw with ⟨l2, e2, _⟩ | ⟨l2, e2, _⟩
    · rw [if_pos l2] at z
      exact inj _ _ hw hv z
    · have nl : ¬ ix O (par rs w) < ix O w := by omega
      rw [if_neg nl] at z
      rw [z, e1] at e2
      have := inj _ _ pw hv z
      have := inj _ _ pv hw e2
      omega
  · have nl1 : ¬ ix O (par rs v) < ix O v := by omega
    rw [if_neg nl1] at z
    rcases h.road V hL w0 hw with ⟨l2, e2, _⟩ | ⟨l2, e2, _⟩
    · rw [if_pos l2] at z
      rw [z, e1] at e2
      have := inj _ _ hw pv z
      have := inj _ _ hv pw e2
      omega
    · have nl : ¬ ix O (par rs w) < ix O w := by omega
      rw [if_neg nl] at z
      rw [z, e1] at e2
      exact (inj _ _ hv hw e2).symm
theorem hung_sum {L : Nat} (h : FullO rs O) (V : Vr rs (L : Int)) (hL : 1 ≤ L) : ((hungR rs O).map fun z => z.2).sum = (rs.map fun z => z.2).sum := by
  have V' := hungR_vr h V hL
  have key : ∀ rs' : Rds, Vr rs' (L : Int) → (rs'.map fun z => z.2) = ((List.range rs'.length).map fun i => len rs' (i + 1)).map fun (n : Nat) => (n : Int) := fun rs' V => by
    rw [List.map_map]
    refine List.ext_getElem (by simp) fun i h1 h2 => ?_
    have hi : i < rs'.length := by simpa using h1
    rw [List.getElem_map, List.getElem_map, List.getElem_range]
    exact (V.len_eq (k := i) (p := rs'[i].1) (l := rs'[i].2) (List.getElem?_eq_getElem hi)).symm
  rw [key _ V', key _ V, hungR_len]
  have e : ((List.range rs.length).map fun i => len rs (i + 1)) = ((List.range rs.length).map fun i => lowE rs O (i + 1) - 1).map fun j => len (hungR rs O) (j + 1) := by
    rw [List.map_map]
    refine List.map_congr_left fun i hi => ?_
    have hi := List.mem_range.mp hi
    obtain ⟨a, b, c⟩ := h.low V hL (v := i + 1) (by omega) (by omega)
    show _ = len (hungR rs O) (lowE rs O (i + 1) - 1 + 1)
    rw [show lowE rs O (i + 1) - 1 + 1 = lowE rs O (i + 1) by omega, c]
  have pm : ((List.range rs.length).map fun i => lowE rs O (i + 1) - 1).Perm (List.range rs.length) := by
    have nd : ((List.range rs.length).map fun i => lowE rs O (i + 1) - 1).Nodup := List.pairwise_map.mpr (List.Pairwise.imp_of_mem (fun {i j} hi hj ne e => by
      have hi := List.mem_range.mp hi
      have hj := List.mem_range.mp hj
      obtain ⟨a, b, _⟩ := h.low V hL (v := i + 1) (by omega) (by omega)
      obtain ⟨a', b', _⟩ := h.low V hL (v := j + 1) (by omega) (by omega)
      have := h.low_inj V hL (v := j + 1) (w := i + 1) (by omega) (by omega) (by omega) (by omega) (by omega)
      omega) List.nodup_range)
    have sub : ∀ a ∈ (List.range rs.length).map fun i => lowE rs O (i + 1) - 1, a ∈ List.range rs.length := fun a ha => by
      obtain ⟨i, hi, rfl⟩ := List.mem_map.mp ha
      have hi := List.mem_range.mp hi
      obtain ⟨a, b, _⟩ := h.low V hL (v := i + 1) (by omega) (by omega)
      exact List.mem_range.mpr (by omega)
    refine perm_nd nd List.nodup_range fun a => ⟨sub a, fun ha => Classical.byContradiction fun n => ?_⟩
    have := len_le_of (xs := a :: (List.range rs.length).map fun i => lowE rs O (i + 1) - 1) (ys := List.range rs.length) (List.nodup_cons.mpr ⟨n, nd⟩) fun b hb => by
      rcases List.mem_cons.mp hb with rfl | hb
      · exact ha
      · exact sub b hb
    rw [List.length_cons, List.length_map, List.length_range] at this
    omega
  rw [e, sum_cast, sum_cast, (pm.map fun j => len (hungR rs O) (j + 1)).sum_nat]
end
section
variable {rs rs' rs2 : Rds} {g f : Pt → Pt}
theorem Simi.id (rs : Rds) : Simi rs rs (fun p => p) 1 := ⟨Nat.le_refl _, fun _ h => h, fun _ _ _ _ => (Nat.one_mul _).symm⟩
theorem Simi.comp {j k : Nat} (S : Simi rs rs' g j) (T : Simi rs' rs2 f k) : Simi rs rs2 (fun p => f (g p)) (k * j) := ⟨Nat.mul_pos T.pos S.pos, fun p h => T.vp _ (S.vp _ h), fun p q hp_ hq => by rw [T.ds _ _ (S.vp _ hp_) (S.vp _ hq), S.ds _ _ hp_ hq, Nat.mul_assoc]⟩
end
end Tw
namespace Lw
open PySem PySem.Spec L2 Sm
open Enc (enc)
def topS (i : Nat) : Stmt := PySem.Challenge.pw_bothcome_k08_whole_ways_in_hung_trees.main.body.getD i (.Pass ⟨0, 0, 0, 0⟩)
section
variable {Pr : Program} {w : World} {K : Fr} {mg : Str → Option Value} {base : Heap} {C : Nat → Addr}
abbrev is_integer_ps : List Type := [Int]
abbrev is_integer_ls : List Type := []
abbrev is_integer_T : List Type := [Int]
abbrev is_integer_value : Var is_integer_T Int := .vz
abbrev is_integer_G (K : Fr) (C : Nat → Addr) (v0 : V) : RTs K is_integer_T := ((RT.dat K Int, ()) : RT K Int × RTs K [])
abbrev is_integer_Gr (K : Fr) (C : Nat → Addr) (v0 : V) : RTs K is_integer_T := ((RT.dead K Int, ()) : RT K Int × RTs K [])
abbrev is_integer_R (K : Fr) (C : Nat → Addr) : RT K Bool := RT.dat K Bool
noncomputable def is_integer_m : MS is_integer_T Bool := (sRet (mAnd (m1 (isT true) (mV is_integer_value)) (m1 bnot (m1 (isT false) (mV is_integer_value)))))
noncomputable abbrev is_integer_fs (K : Fr) (C : Nat → Addr) : Fs K := { ps := is_integer_ps, Γp := (((RT.dat K Int, ()) : RT K Int × RTs K []) : RTs K is_integer_ps), Γo := (((RT.dead K Int, ()) : RT K Int × RTs K []) : RTs K is_integer_ps), ρ := Bool, R := is_integer_R K C, f := (bodyF (ps := is_integer_ps) (ls := is_integer_ls) is_integer_m) }
theorem is_integer_sc : FnScope ["value"] ["value"] (defScope (topS 5)) := ⟨rfl, rfl, rfl, by decide +kernel, rfl, by decide +kernel, by decide +kernel⟩
theorem is_integer_ok {fa : Addr} {fd : FuncData} (F : Fun K "is_integer" "is_integer" (topS 5) fa fd) (TC0 : TC K (C 0)) (z_isinstance : mg "isinstance" = none) (z_int : mg "int" = none) (z_bool : mg "bool" = none) : FnOk Pr w K mg base CX0 1 fa fd ["value"] (spF (is_integer_fs K C)) := by
  refine fs_ok (k := 0) F is_integer_sc (ps := is_integer_ps) (ls := is_integer_ls) (m := is_integer_m) rfl rfl fun cdv A outer s H vs E hl hr => ?_
  obtain ⟨v0, rfl⟩ := len1 hl
  have hu : (A.deeper (PyProof.Rows.envOfC "is_integer" (defScope (topS 5)) s.heap.objs.size fa cdv)).units + 65 < cLine := by have := hr.un; omega
  refine ⟨is_integer_G K C v0, is_integer_Gr K C v0, is_integer_G K C v0, ⟨fun _ _ _ _ _ _ h => h, trivial⟩, ⟨fun _ _ _ _ _ _ _ _ => trivial, trivial⟩, ?_⟩
  exact (.one (.ret (.and (.isinst (T := "int") (t := "int") (T' := "int") (r := true) ty_int (by decide +kernel) (by rfl) z_isinstance (by rfl) z_int (by decide +kernel) (.name (x := is_integer_value) (pv 0) rfl rfl)) (.one (.not (.isinst (T := "bool") (t := "bool") (T' := "int") (r := false) ty_int (by decide +kernel) (by rfl) z_isinstance (by rfl) z_bool (by decide +kernel) (.name (x := is_integer_value) (pv 0) rfl rfl))))) ⟨.inr rfl, trivial⟩))
abbrev l_digits_ps : List Type := [List Int, Int]
abbrev l_digits_ls : List Type := [Int, Int, Int, Int]
abbrev l_digits_T : List Type := [List Int, Int, Int, Int, Int, Int]
abbrev l_digits_script : Var l_digits_T (List Int) := .vz
abbrev l_digits_at : Var l_digits_T Int := .vs .vz
abbrev l_digits_cell : Var l_digits_T Int := .vs (.vs .vz)
abbrev l_digits_value : Var l_digits_T Int := .vs (.vs (.vs .vz))
abbrev l_digits_wide : Var l_digits_T Int := .vs (.vs (.vs (.vs .vz)))
abbrev l_digits_turn : Var l_digits_T Int := .vs (.vs (.vs (.vs (.vs .vz))))
abbrev l_digits_G (K : Fr) (C : Nat → Addr) (v0 v1 : V) : RTs K l_digits_T := ((RT.scr K, ((RT.dat K Int, ((RT.dat K Int, ((RT.dat K Int, ((RT.dat K Int, ((RT.dat K Int, ()) : RT K Int × RTs K [])) : RT K Int × RTs K [Int])) : RT K Int × RTs K [Int, Int])) : RT K Int × RTs K [Int, Int, Int])) : RT K Int × RTs K [Int, Int, Int, Int])) : RT K (List Int) × RTs K [Int, Int, Int, Int, Int])
abbrev l_digits_Gr (K : Fr) (C : Nat → Addr) (v0 v1 : V) : RTs K l_digits_T := ((RT.dead K (List Int), ((RT.dead K Int, ((RT.dead K Int, ((RT.dead K Int, ((RT.dead K Int, ((RT.dead K Int, ()) : RT K Int × RTs K [])) : RT K Int × RTs K [Int])) : RT K Int × RTs K [Int, Int])) : RT K Int × RTs K [Int, Int, Int])) : RT K Int × RTs K [Int, Int, Int, Int])) : RT K (List Int) × RTs K [Int, Int, Int, Int, Int])
abbrev l_digits_R (K : Fr) (C : Nat → Addr) : RT K (List Int) := RT.own K Int
noncomputable def l_digits_m : MS l_digits_T (List Int) := (sSeq (sAsg l_digits_cell (mC (0 : Int)))
  (sSeq (sIf (m2 ilt (mV l_digits_at) (m1 ilen (mV l_digits_script))) (sAsg l_digits_cell (m2 idx (mV l_digits_script) (mV l_digits_at))) sSkip)
  (sSeq (sIf (m2 ige (mV l_digits_cell) (m2 ipow (mC (10 : Int)) (mC (18 : Int)))) (sRet (m1 lstO (m2 consO (m2 isub (mV l_digits_cell) (m2 ipow (mC (10 : Int)) (mC (18 : Int)))) (mC ([] : List Int))))) sSkip)
  (sSeq (sAsg l_digits_value (m2 imod (m1 idt (m2 iadd (m2 iadd (m2 imul (mV l_digits_cell) (mC (2 : Int))) (mC (1 : Int))) (m2 imul (mC (40129 : Int)) (mV l_digits_at)))) (mC (2147483629 : Int))))
  (sSeq (sAsg l_digits_wide (mC (0 : Int)))
  (sSeq (sFor (m1 rng (mC (36 : Int))) (fun y s => l_digits_turn.set (some y) s) (sSeq (sAsg l_digits_value (m2 imod (m1 idt (m2 iadd (m2 imul (mV l_digits_value) (mV l_digits_value)) (m2 imul (mV l_digits_value) (m2 iadd (m2 imul (mC (2 : Int)) (mV l_digits_turn)) (mC (3 : Int)))))) (mC (2147483629 : Int))))
  (sSeq (sAsg l_digits_value (m2 imod (m1 idt (m2 iadd (m2 iadd (mV l_digits_value) (m2 imul (mC (48271 : Int)) (mV l_digits_turn))) (m2 imul (mC (17 : Int)) (mV l_digits_at)))) (mC (2147483629 : Int))))
  (sAsg l_digits_wide (m2 iadd (m2 imul (mV l_digits_wide) (mC (999983 : Int))) (m2 imod (m1 idt (m2 idiv (mV l_digits_value) (mC (11 : Int)))) (mC (999983 : Int))))))))
  (sRet (m1 lstO (m2 consO (mV l_digits_wide) (mC ([] : List Int)))))))))))
noncomputable abbrev l_digits_fs (K : Fr) (C : Nat → Addr) : Fs K := { ps := l_digits_ps, Γp := (((RT.scr K, ((RT.dat K Int, ()) : RT K Int × RTs K [])) : RT K (List Int) × RTs K [Int]) : RTs K l_digits_ps), Γo := (((RT.dead K (List Int), ((RT.dead K Int, ()) : RT K Int × RTs K [])) : RT K (List Int) × RTs K [Int]) : RTs K l_digits_ps), ρ := List Int, R := l_digits_R K C, f := (bodyF (ps := l_digits_ps) (ls := l_digits_ls) l_digits_m) }
theorem l_digits_sc : FnScope ["script", "at", "cell", "value", "wide", "turn"] ["script", "at"] (defScope (topS 9)) := ⟨rfl, rfl, rfl, by decide +kernel, rfl, by decide +kernel, by decide +kernel⟩
theorem l_digits_ok {fa : Addr} {fd : FuncData} (F : Fun K "_law_digits" "_law_digits" (topS 9) fa fd) (TC0 : TC K (C 0)) (z_range : mg "range" = none) (z_len : mg "len" = none) (z_int : mg "int" = none) : FnOk Pr w K mg base CX0 1 fa fd ["script", "at"] (spF (l_digits_fs K C)) := by
  refine fs_ok (k := 0) F l_digits_sc (ps := l_digits_ps) (ls := l_digits_ls) (m := l_digits_m) rfl rfl fun cdv A outer s H vs E hl hr => ?_
  obtain ⟨v0, v1, rfl⟩ := len2 hl
  have hu : (A.deeper (PyProof.Rows.envOfC "_law_digits" (defScope (topS 9)) s.heap.objs.size fa cdv)).units + 65 < cLine := by have := hr.un; omega
  refine ⟨l_digits_G K C v0 v1, l_digits_Gr K C v0 v1, l_digits_G K C v0 v1, ⟨fun _ _ _ _ _ _ h => h, fun _ _ _ _ _ _ h => h, trivial⟩, ⟨fun _ _ _ _ _ _ _ _ => trivial, fun _ _ _ _ _ _ _ _ => trivial, trivial⟩, ?_⟩
  exact (.cons (Γ1 := l_digits_G _ C v0 v1)
    (.asg (x := l_digits_cell) .int l_digits_sc.nd rfl (.inl rfl))
  (.cons (Γ1 := l_digits_G _ C v0 v1)
    (.ite (.ofC (.lt (.name (x := l_digits_at) (pv 1) rfl rfl) (.lenScr (by rfl) z_len (.name (x := l_digits_script) (pv 0) rfl rfl)))) (.one (.asg (x := l_digits_cell) (.idxScr (.name (x := l_digits_script) (pv 0) rfl rfl) (.name (x := l_digits_at) (pv 1) rfl rfl)) l_digits_sc.nd rfl (.inl rfl))) XSs.nil)
  (.cons (Γ1 := l_digits_G _ C v0 v1)
    (.ite (.ofC (.ge (.name (x := l_digits_cell) (pv 2) rfl rfl) (.pow .int .int))) (.one (.ret (.lst (.cons (.sub (.name (x := l_digits_cell) (pv 2) rfl rfl) (.pow .int .int)) .nil)) ⟨.inr rfl, ⟨.inr rfl, ⟨.inr rfl, ⟨.inr rfl, ⟨.inr rfl, ⟨.inr rfl, trivial⟩⟩⟩⟩⟩⟩)) XSs.nil)
  (.cons (Γ1 := l_digits_G _ C v0 v1)
    (.asg (x := l_digits_value) (.mod (.intOf (by rfl) z_int (.add (.add (.mul (.name (x := l_digits_cell) (pv 2) rfl rfl) .int) .int) (.mul .int (.name (x := l_digits_at) (pv 1) rfl rfl)))) .int) l_digits_sc.nd rfl (.inl rfl))
  (.cons (Γ1 := l_digits_G _ C v0 v1)
    (.asg (x := l_digits_wide) .int l_digits_sc.nd rfl (.inl rfl))
  (.cons (Γ1 := l_digits_G _ C v0 v1)
    (.for_ (Γt := l_digits_G _ C v0 v1) PassesOwn.never rfl (.range1 (by rfl) z_range .int) ⟨.inl rfl, ⟨.inl rfl, ⟨.inl rfl, ⟨.inl rfl, ⟨.inl rfl, ⟨.inl rfl, trivial⟩⟩⟩⟩⟩⟩ (.name (x := l_digits_turn) rfl l_digits_sc.nd rfl (.inl rfl)) (.cons (Γ1 := l_digits_G _ C v0 v1)
    (.asg (x := l_digits_value) (.mod (.intOf (by rfl) z_int (.add (.mul (.name (x := l_digits_value) (pv 3) rfl rfl) (.name (x := l_digits_value) (pv 3) rfl rfl)) (.mul (.name (x := l_digits_value) (pv 3) rfl rfl) (.add (.mul .int (.name (x := l_digits_turn) (pv 5) rfl rfl)) .int)))) .int) l_digits_sc.nd rfl (.inl rfl))
  (.cons (Γ1 := l_digits_G _ C v0 v1)
    (.asg (x := l_digits_value) (.mod (.intOf (by rfl) z_int (.add (.add (.name (x := l_digits_value) (pv 3) rfl rfl) (.mul .int (.name (x := l_digits_turn) (pv 5) rfl rfl))) (.mul .int (.name (x := l_digits_at) (pv 1) rfl rfl)))) .int) l_digits_sc.nd rfl (.inl rfl))
  (.one (.asg (x := l_digits_wide) (.add (.mul (.name (x := l_digits_wide) (pv 4) rfl rfl) .int) (.mod (.intOf (by rfl) z_int (.fdiv (.name (x := l_digits_value) (pv 3) rfl rfl) .int)) .int)) l_digits_sc.nd rfl (.inl rfl))))))
  (.one (.ret (.lst (.cons (.name (x := l_digits_wide) (pv 4) rfl rfl) .nil)) ⟨.inr rfl, ⟨.inr rfl, ⟨.inr rfl, ⟨.inr rfl, ⟨.inr rfl, ⟨.inr rfl, trivial⟩⟩⟩⟩⟩⟩))))))))
abbrev l_take_ps : List Type := [List Int, Int]
abbrev l_take_ls : List Type := [Int]
abbrev l_take_T : List Type := [List Int, Int, Int]
abbrev l_take_digits : Var l_take_T (List Int) := .vz
abbrev l_take_many : Var l_take_T Int := .vs .vz
abbrev l_take_found : Var l_take_T Int := .vs (.vs .vz)
abbrev l_take_G (K : Fr) (C : Nat → Addr) (v0 v1 : V) : RTs K l_take_T := ((RT.at v0 (RT.own K Int), ((RT.dat K Int, ((RT.dat K Int, ()) : RT K Int × RTs K [])) : RT K Int × RTs K [Int])) : RT K (List Int) × RTs K [Int, Int])
abbrev l_take_Gr (K : Fr) (C : Nat → Addr) (v0 v1 : V) : RTs K l_take_T := ((RT.at v0 (RT.own K Int), ((RT.dead K Int, ((RT.dead K Int, ()) : RT K Int × RTs K [])) : RT K Int × RTs K [Int])) : RT K (List Int) × RTs K [Int, Int])
abbrev l_take_R (K : Fr) (C : Nat → Addr) : RT K Int := RT.dat K Int
noncomputable def l_take_m : MS l_take_T Int := (sSeq (sAsg l_take_found (m2 imod (m1 idt (m2 idx (mV l_take_digits) (mC (0 : Int)))) (mV l_take_many)))
  (sSeq (sSetI l_take_digits (mC (0 : Int)) (m2 idiv (m1 idt (m2 idx (mV l_take_digits) (mC (0 : Int)))) (mV l_take_many)))
  (sRet (mV l_take_found))))
noncomputable abbrev l_take_fs (K : Fr) (C : Nat → Addr) : Fs K := { ps := l_take_ps, Γp := (((RT.own K Int, ((RT.dat K Int, ()) : RT K Int × RTs K [])) : RT K (List Int) × RTs K [Int]) : RTs K l_take_ps), Γo := (((RT.own K Int, ((RT.dead K Int, ()) : RT K Int × RTs K [])) : RT K (List Int) × RTs K [Int]) : RTs K l_take_ps), ρ := Int, R := l_take_R K C, f := (bodyF (ps := l_take_ps) (ls := l_take_ls) l_take_m) }
theorem l_take_sc : FnScope ["digits", "many", "found"] ["digits", "many"] (defScope (topS 10)) := ⟨rfl, rfl, rfl, by decide +kernel, rfl, by decide +kernel, by decide +kernel⟩
theorem l_take_ok {fa : Addr} {fd : FuncData} (F : Fun K "_law_take" "_law_take" (topS 10) fa fd) (TC0 : TC K (C 0)) (z_int : mg "int" = none) : FnOk Pr w K mg base CX0 1 fa fd ["digits", "many"] (spF (l_take_fs K C)) := by
  refine fs_ok (k := 0) F l_take_sc (ps := l_take_ps) (ls := l_take_ls) (m := l_take_m) rfl rfl fun cdv A outer s H vs E hl hr => ?_
  obtain ⟨v0, v1, rfl⟩ := len2 hl
  have hu : (A.deeper (PyProof.Rows.envOfC "_law_take" (defScope (topS 10)) s.heap.objs.size fa cdv)).units + 65 < cLine := by have := hr.un; omega
  refine ⟨l_take_G K C v0 v1, l_take_Gr K C v0 v1, l_take_G K C v0 v1, ⟨fun v G H x A e h => ⟨(Option.some.inj e).symm, h⟩, fun _ _ _ _ _ _ h => h, trivial⟩, ⟨fun v u G H x A e h => by cases (Option.some.inj e); cases h.1; exact h.2, fun _ _ _ _ _ _ _ _ => trivial, trivial⟩, ?_⟩
  exact (.cons (Γ1 := l_take_G _ C v0 v1)
    (.asg (x := l_take_found) (.borrow l_take_digits (.mod (.intOf (by rfl) z_int (.idx (.var (x := l_take_digits) (pv 0) rfl rfl (fun _ _ _ h => h.2)) .int)) (.name (x := l_take_many) (pv 1) rfl rfl)) (lin_dat)) l_take_sc.nd rfl (.inl rfl))
  (.cons (Γ1 := l_take_G _ C v0 v1)
    (.setI (x := l_take_digits) (pv 0) .at (.borrow l_take_digits (.fdiv (.intOf (by rfl) z_int (.idx (.var (x := l_take_digits) (pv 0) rfl rfl (fun _ _ _ h => h.2)) .int)) (.name (x := l_take_many) (pv 1) rfl rfl)) (lin_dat)) .int)
  (.one (.ret (.name (x := l_take_found) (pv 2) rfl rfl) ⟨.inl rfl, ⟨.inr rfl, ⟨.inr rfl, trivial⟩⟩⟩))))
abbrev l_whole_ps : List Type := [Int]
abbrev l_whole_ls : List Type := []
abbrev l_whole_T : List Type := [Int]
abbrev l_whole_found : Var l_whole_T Int := .vz
abbrev l_whole_G (K : Fr) (C : Nat → Addr) (v0 : V) : RTs K l_whole_T := ((RT.dat K Int, ()) : RT K Int × RTs K [])
abbrev l_whole_Gr (K : Fr) (C : Nat → Addr) (v0 : V) : RTs K l_whole_T := ((RT.dead K Int, ()) : RT K Int × RTs K [])
abbrev l_whole_R (K : Fr) (C : Nat → Addr) : RT K Bool := RT.dat K Bool
noncomputable def l_whole_m : MS l_whole_T Bool := (sRet (mAnd (m1 (isT true) (mV l_whole_found)) (m1 bnot (m1 (isT false) (mV l_whole_found)))))
noncomputable abbrev l_whole_fs (K : Fr) (C : Nat → Addr) : Fs K := { ps := l_whole_ps, Γp := (((RT.dat K Int, ()) : RT K Int × RTs K []) : RTs K l_whole_ps), Γo := (((RT.dead K Int, ()) : RT K Int × RTs K []) : RTs K l_whole_ps), ρ := Bool, R := l_whole_R K C, f := (bodyF (ps := l_whole_ps) (ls := l_whole_ls) l_whole_m) }
theorem l_whole_sc : FnScope ["found"] ["found"] (defScope (topS 11)) := ⟨rfl, rfl, rfl, by decide +kernel, rfl, by decide +kernel, by decide +kernel⟩
theorem l_whole_ok {fa : Addr} {fd : FuncData} (F : Fun K "_law_whole" "_law_whole" (topS 11) fa fd) (TC0 : TC K (C 0)) (z_isinstance : mg "isinstance" = none) (z_int : mg "int" = none) (z_bool : mg "bool" = none) : FnOk Pr w K mg base CX0 1 fa fd ["found"] (spF (l_whole_fs K C)) := by
  refine fs_ok (k := 0) F l_whole_sc (ps := l_whole_ps) (ls := l_whole_ls) (m := l_whole_m) rfl rfl fun cdv A outer s H vs E hl hr => ?_
  obtain ⟨v0, rfl⟩ := len1 hl
  have hu : (A.deeper (PyProof.Rows.envOfC "_law_whole" (defScope (topS 11)) s.heap.objs.size fa cdv)).units + 65 < cLine := by have := hr.un; omega
  refine ⟨l_whole_G K C v0, l_whole_Gr K C v0, l_whole_G K C v0, ⟨fun _ _ _ _ _ _ h => h, trivial⟩, ⟨fun _ _ _ _ _ _ _ _ => trivial, trivial⟩, ?_⟩
  exact (.one (.ret (.and (.isinst (T := "int") (t := "int") (T' := "int") (r := true) ty_int (by decide +kernel) (by rfl) z_isinstance (by rfl) z_int (by decide +kernel) (.name (x := l_whole_found) (pv 0) rfl rfl)) (.one (.not (.isinst (T := "bool") (t := "bool") (T' := "int") (r := false) ty_int (by decide +kernel) (by rfl) z_isinstance (by rfl) z_bool (by decide +kernel) (.name (x := l_whole_found) (pv 0) rfl rfl))))) ⟨.inr rfl, trivial⟩))
abbrev l_climb_N : List Str := ["roads", "point", "found", "step", "node", "up", "parent", "length"]
abbrev l_climb_ps : List Type := [List (Int × Int), (Int × Int)]
abbrev l_climb_ls : List Type := [List (Int × Int), Int, Int, Int, Int, Int]
abbrev l_climb_T : List Type := [List (Int × Int), (Int × Int), List (Int × Int), Int, Int, Int, Int, Int]
abbrev l_climb_roads : Var l_climb_T (List (Int × Int)) := .vz
abbrev l_climb_point : Var l_climb_T (Int × Int) := .vs .vz
abbrev l_climb_found : Var l_climb_T (List (Int × Int)) := .vs (.vs .vz)
abbrev l_climb_step : Var l_climb_T Int := .vs (.vs (.vs .vz))
abbrev l_climb_node : Var l_climb_T Int := .vs (.vs (.vs (.vs .vz)))
abbrev l_climb_up : Var l_climb_T Int := .vs (.vs (.vs (.vs (.vs .vz))))
abbrev l_climb_parent : Var l_climb_T Int := .vs (.vs (.vs (.vs (.vs (.vs .vz)))))
abbrev l_climb_length : Var l_climb_T Int := .vs (.vs (.vs (.vs (.vs (.vs (.vs .vz))))))
abbrev l_climb_G (K : Fr) (C : Nat → Addr) (v0 v1 : V) : RTs K l_climb_T := ((RT.dat K (List (Int × Int)), ((RT.dat K (Int × Int), ((RT.own K (Int × Int), ((RT.dat K Int, ((RT.dat K Int, ((RT.dat K Int, ((RT.dat K Int, ((RT.dat K Int, ()) : RT K Int × RTs K [])) : RT K Int × RTs K [Int])) : RT K Int × RTs K [Int, Int])) : RT K Int × RTs K [Int, Int, Int])) : RT K Int × RTs K [Int, Int, Int, Int])) : RT K (List (Int × Int)) × RTs K [Int, Int, Int, Int, Int])) : RT K (Int × Int) × RTs K [List (Int × Int), Int, Int, Int, Int, Int])) : RT K (List (Int × Int)) × RTs K [(Int × Int), List (Int × Int), Int, Int, Int, Int, Int])
abbrev l_climb_Gr (K : Fr) (C : Nat → Addr) (v0 v1 : V) : RTs K l_climb_T := ((RT.dead K (List (Int × Int)), ((RT.dead K (Int × Int), ((RT.dead K (List (Int × Int)), ((RT.dead K Int, ((RT.dead K Int, ((RT.dead K Int, ((RT.dead K Int, ((RT.dead K Int, ()) : RT K Int × RTs K [])) : RT K Int × RTs K [Int])) : RT K Int × RTs K [Int, Int])) : RT K Int × RTs K [Int, Int, Int])) : RT K Int × RTs K [Int, Int, Int, Int])) : RT K (List (Int × Int)) × RTs K [Int, Int, Int, Int, Int])) : RT K (Int × Int) × RTs K [List (Int × Int), Int, Int, Int, Int, Int])) : RT K (List (Int × Int)) × RTs K [(Int × Int), List (Int × Int), Int, Int, Int, Int, Int])
abbrev l_climb_R (K : Fr) (C : Nat → Addr) : RT K (List (Int × Int)) := RT.own K (Int × Int)
noncomputable def l_climb_m : MS l_climb_T (List (Int × Int)) := (sSeq (sAsgG (fun z s => l_climb_up.set (some z.2) (l_climb_node.set (some z.1) s)) (mV l_climb_point))
  (sSeq (sAsg l_climb_found (m1 lstO (mC ([] : List (Int × Int)))))
  (sSeq (sFor (m1 rng (m2 iadd (mC (1 : Int)) (m1 isum (mLc (mV l_climb_roads) (fun z s => l_climb_length.set (some z.2) (l_climb_parent.set (some z.1) s)) (Own.two l_climb_parent l_climb_length (by decide)).rs (mC true) (mV l_climb_length))))) (fun y s => l_climb_step.set (some y) s) (sSeq (sApp l_climb_found (m2 pair (mV l_climb_node) (mV l_climb_up)))
  (sSeq (sIf (m2 ieq (mV l_climb_node) (mC (0 : Int))) (sRet (mV l_climb_found)) sSkip)
  (sSeq (sAsg l_climb_up (m2 iadd (mV l_climb_up) (mC (1 : Int))))
  (sIf (m2 ieq (mV l_climb_up) (m1 snd' (m2 idx (mV l_climb_roads) (m2 isub (mV l_climb_node) (mC (1 : Int)))))) (sPar l_climb_node l_climb_up (m1 fst' (m2 idx (mV l_climb_roads) (m2 isub (mV l_climb_node) (mC (1 : Int))))) (mC (0 : Int))) sSkip)))))
  (sRet (mV l_climb_found)))))
noncomputable abbrev l_climb_fs (K : Fr) (C : Nat → Addr) : Fs K := { ps := l_climb_ps, Γp := (((RT.dat K (List (Int × Int)), ((RT.dat K (Int × Int), ()) : RT K (Int × Int) × RTs K [])) : RT K (List (Int × Int)) × RTs K [(Int × Int)]) : RTs K l_climb_ps), Γo := (((RT.dead K (List (Int × Int)), ((RT.dead K (Int × Int), ()) : RT K (Int × Int) × RTs K [])) : RT K (List (Int × Int)) × RTs K [(Int × Int)]) : RTs K l_climb_ps), ρ := List (Int × Int), R := l_climb_R K C, f := (bodyF (ps := l_climb_ps) (ls := l_climb_ls) l_climb_m) }
theorem l_climb_sc : FnScope ["roads", "point", "found", "step", "node", "up", "parent", "length"] ["roads", "point"] (defScope (topS 14)) := ⟨rfl, rfl, rfl, by decide +kernel, rfl, by decide +kernel, by decide +kernel⟩
theorem l_climb_ok {fa : Addr} {fd : FuncData} (F : Fun K "_law_climb" "_law_climb" (topS 14) fa fd) (TC0 : TC K (C 0)) (z_range : mg "range" = none) (z_sum : mg "sum" = none) : FnOk Pr w K mg base CX0 1 fa fd ["roads", "point"] (spF (l_climb_fs K C)) := by
  refine fs_ok (k := 0) F l_climb_sc (ps := l_climb_ps) (ls := l_climb_ls) (m := l_climb_m) rfl rfl fun cdv A outer s H vs E hl hr => ?_
  obtain ⟨v0, v1, rfl⟩ := len2 hl
  have hu : (A.deeper (PyProof.Rows.envOfC "_law_climb" (defScope (topS 14)) s.heap.objs.size fa cdv)).units + 65 < cLine := by have := hr.un; omega
  refine ⟨l_climb_G K C v0 v1, l_climb_Gr K C v0 v1, l_climb_G K C v0 v1, ⟨fun _ _ _ _ _ _ h => h, fun _ _ _ _ _ _ h => h, trivial⟩, ⟨fun _ _ _ _ _ _ _ _ => trivial, fun _ _ _ _ _ _ _ _ => trivial, trivial⟩, ?_⟩
  exact (.cons (Γ1 := l_climb_G _ C v0 v1)
    (.asgG rfl (.name (x := l_climb_point) (pv 1) rfl rfl) (.pair (x := l_climb_node) (y := l_climb_up) rfl l_climb_sc.nd rfl (.inl rfl) rfl (.inl rfl) (by decide)))
  (.cons (Γ1 := l_climb_G _ C v0 v1)
    (.asg (x := l_climb_found) (.lst .nil) l_climb_sc.nd rfl (.inl rfl))
  (.cons (Γ1 := l_climb_G _ C v0 v1)
    (.for_ (Γt := l_climb_G _ C v0 v1) PassesOwn.never rfl (.range1 (by rfl) z_range (.add .int (.sum rfl (by rfl) z_sum (.dat (.lc (own := [("parent", 6), ("length", 7)]) rfl l_climb_sc.nd (blkOk_by (N := l_climb_N) (sc := defScope (topS 14)) (by decide +kernel)) (Own.two l_climb_parent l_climb_length (by decide)) (.list (.name (x := l_climb_roads) (pv 0) rfl rfl)) (fixAt rfl) (fun _ _ _ => rfl) (fun _ _ _ _ _ => (.pair (x := l_climb_parent) (y := l_climb_length) rfl l_climb_sc.nd rfl (.inl rfl) rfl (.inl rfl) (by decide))) (fun _ _ _ _ _ => XTs.nil) (fun _ _ _ _ _ => (.name (x := l_climb_length) (pv 7) rfl rfl))))))) ⟨.inl rfl, ⟨.inl rfl, ⟨.inl rfl, ⟨.inl rfl, ⟨.inl rfl, ⟨.inl rfl, ⟨.inl rfl, ⟨.inl rfl, trivial⟩⟩⟩⟩⟩⟩⟩⟩ (.name (x := l_climb_step) rfl l_climb_sc.nd rfl (.inl rfl)) (.cons (Γ1 := l_climb_G _ C v0 v1)
    (.app (x := l_climb_found) (pv 2) .refl (.pair (.name (x := l_climb_node) (pv 4) rfl rfl) (.name (x := l_climb_up) (pv 5) rfl rfl)))
  (.cons (Γ1 := l_climb_G _ C v0 v1)
    (.ite (.ofC (.eq (.name (x := l_climb_node) (pv 4) rfl rfl) .int hu)) (.one (.retV (x := l_climb_found) (pv 2) rfl ⟨.inr rfl, ⟨.inr rfl, ⟨.inr rfl, ⟨.inr rfl, ⟨.inr rfl, ⟨.inr rfl, ⟨.inr rfl, ⟨.inr rfl, trivial⟩⟩⟩⟩⟩⟩⟩⟩)) XSs.nil)
  (.cons (Γ1 := l_climb_G _ C v0 v1)
    (.asg (x := l_climb_up) (.add (.name (x := l_climb_up) (pv 5) rfl rfl) .int) l_climb_sc.nd rfl (.inl rfl))
  (.one (.ite (.ofC (.eq (.name (x := l_climb_up) (pv 5) rfl rfl) (.snd (.idx (.name (x := l_climb_roads) (pv 0) rfl rfl) (.sub (.name (x := l_climb_node) (pv 4) rfl rfl) .int))) hu)) (.one (.par (x := l_climb_node) (y := l_climb_up) rfl l_climb_sc.nd rfl rfl (by decide) rfl rfl (.fst (.idx (.name (x := l_climb_roads) (pv 0) rfl rfl) (.sub (.name (x := l_climb_node) (pv 4) rfl rfl) .int))) .int rfl)) XSs.nil))))))
  (.one (.retV (x := l_climb_found) (pv 2) rfl ⟨.inr rfl, ⟨.inr rfl, ⟨.inr rfl, ⟨.inr rfl, ⟨.inr rfl, ⟨.inr rfl, ⟨.inr rfl, ⟨.inr rfl, trivial⟩⟩⟩⟩⟩⟩⟩⟩)))))
abbrev T_roads_ps : List Type := [TreeD]
abbrev T_roads_ls : List Type := []
abbrev T_roads_T : List Type := [TreeD]
abbrev T_roads_self : Var T_roads_T TreeD := .vz
abbrev T_roads_G (K : Fr) (C : Nat → Addr) (v0 : V) : RTs K T_roads_T := ((RT.tree K (C 0), ()) : RT K TreeD × RTs K [])
abbrev T_roads_Gr (K : Fr) (C : Nat → Addr) (v0 : V) : RTs K T_roads_T := ((RT.dead K TreeD, ()) : RT K TreeD × RTs K [])
abbrev T_roads_R (K : Fr) (C : Nat → Addr) : RT K (List (Int × Int)) := RT.own K (Int × Int)
noncomputable def T_roads_m : MS T_roads_T (List (Int × Int)) := (sRet (m2 zipL (m2 slcA (m1 fPs (mV T_roads_self)) (mC (1 : Int))) (m2 slcA (m1 fLs (mV T_roads_self)) (mC (1 : Int)))))
noncomputable abbrev T_roads_fs (K : Fr) (C : Nat → Addr) : Fs K := { ps := T_roads_ps, Γp := (((RT.tree K (C 0), ()) : RT K TreeD × RTs K []) : RTs K T_roads_ps), Γo := (((RT.dead K TreeD, ()) : RT K TreeD × RTs K []) : RTs K T_roads_ps), ρ := List (Int × Int), R := T_roads_R K C, f := (bodyF (ps := T_roads_ps) (ls := T_roads_ls) T_roads_m) }
theorem T_roads_sc : FnScope ["self"] ["self"] (defScope (inClass (topS 7) 1)) := ⟨rfl, rfl, rfl, by decide +kernel, rfl, by decide +kernel, by decide +kernel⟩
theorem T_roads_ok {fa : Addr} {fd : FuncData} (F : Fun K "roads" "Tree.roads" (inClass (topS 7) 1) fa fd) (TC0 : TC K (C 0)) (z_property : mg "property" = none) (z_list : mg "list" = none) (z_zip : mg "zip" = none) : FnOk Pr w K mg base CX0 1 fa fd ["self"] (spF (T_roads_fs K C)) := by
  refine fs_ok (k := 0) F T_roads_sc (ps := T_roads_ps) (ls := T_roads_ls) (m := T_roads_m) rfl rfl fun cdv A outer s H vs E hl hr => ?_
  obtain ⟨v0, rfl⟩ := len1 hl
  have hu : (A.deeper (PyProof.Rows.envOfC "Tree.roads" (defScope (inClass (topS 7) 1)) s.heap.objs.size fa cdv)).units + 65 < cLine := by have := hr.un; omega
  refine ⟨T_roads_G K C v0, T_roads_Gr K C v0, T_roads_G K C v0, ⟨fun _ _ _ _ _ _ h => h, trivial⟩, ⟨fun _ _ _ _ _ _ _ _ => trivial, trivial⟩, ?_⟩
  exact (.one (.ret (.lzip rfl (by rfl) z_list (by rfl) z_zip (.dat (.slA (.fPs TC0 (.name (x := T_roads_self) (pv 0) rfl rfl)) .int)) (.dat (.slA (.fLs TC0 (.name (x := T_roads_self) (pv 0) rfl rfl)) .int))) ⟨.inr rfl, trivial⟩))
abbrev T_len_ps : List Type := [TreeD]
abbrev T_len_ls : List Type := []
abbrev T_len_T : List Type := [TreeD]
abbrev T_len_self : Var T_len_T TreeD := .vz
abbrev T_len_G (K : Fr) (C : Nat → Addr) (v0 : V) : RTs K T_len_T := ((RT.tree K (C 0), ()) : RT K TreeD × RTs K [])
abbrev T_len_Gr (K : Fr) (C : Nat → Addr) (v0 : V) : RTs K T_len_T := ((RT.dead K TreeD, ()) : RT K TreeD × RTs K [])
abbrev T_len_R (K : Fr) (C : Nat → Addr) : RT K Int := RT.dat K Int
noncomputable def T_len_m : MS T_len_T Int := (sRet (m1 ilen (m1 fPs (mV T_len_self))))
noncomputable abbrev T_len_fs (K : Fr) (C : Nat → Addr) : Fs K := { ps := T_len_ps, Γp := (((RT.tree K (C 0), ()) : RT K TreeD × RTs K []) : RTs K T_len_ps), Γo := (((RT.dead K TreeD, ()) : RT K TreeD × RTs K []) : RTs K T_len_ps), ρ := Int, R := T_len_R K C, f := (bodyF (ps := T_len_ps) (ls := T_len_ls) T_len_m) }
theorem T_len_sc : FnScope ["self"] ["self"] (defScope (inClass (topS 7) 2)) := ⟨rfl, rfl, rfl, by decide +kernel, rfl, by decide +kernel, by decide +kernel⟩
theorem T_len_ok {fa : Addr} {fd : FuncData} (F : Fun K "__len__" "Tree.__len__" (inClass (topS 7) 2) fa fd) (TC0 : TC K (C 0)) (z_len : mg "len" = none) : FnOk Pr w K mg base CX0 1 fa fd ["self"] (spF (T_len_fs K C)) := by
  refine fs_ok (k := 0) F T_len_sc (ps := T_len_ps) (ls := T_len_ls) (m := T_len_m) rfl rfl fun cdv A outer s H vs E hl hr => ?_
  obtain ⟨v0, rfl⟩ := len1 hl
  have hu : (A.deeper (PyProof.Rows.envOfC "Tree.__len__" (defScope (inClass (topS 7) 2)) s.heap.objs.size fa cdv)).units + 65 < cLine := by have := hr.un; omega
  refine ⟨T_len_G K C v0, T_len_Gr K C v0, T_len_G K C v0, ⟨fun _ _ _ _ _ _ h => h, trivial⟩, ⟨fun _ _ _ _ _ _ _ _ => trivial, trivial⟩, ?_⟩
  exact (.one (.ret (.len (by rfl) z_len (.fPs TC0 (.name (x := T_len_self) (pv 0) rfl rfl))) ⟨.inr rfl, trivial⟩))
abbrev T_raised_ps : List Type := [TreeD, (Int × Int), Int]
abbrev T_raised_ls : List Type := [Int, Int]
abbrev T_raised_T : List Type := [TreeD, (Int × Int), Int, Int, Int]
abbrev T_raised_self : Var T_raised_T TreeD := .vz
abbrev T_raised_point : Var T_raised_T (Int × Int) := .vs .vz
abbrev T_raised_far : Var T_raised_T Int := .vs (.vs .vz)
abbrev T_raised_node : Var T_raised_T Int := .vs (.vs (.vs .vz))
abbrev T_raised_up : Var T_raised_T Int := .vs (.vs (.vs (.vs .vz)))
abbrev T_raised_G (K : Fr) (C : Nat → Addr) (v0 v1 v2 : V) : RTs K T_raised_T := ((RT.tree K (C 0), ((RT.dat K (Int × Int), ((RT.dat K Int, ((RT.dat K Int, ((RT.dat K Int, ()) : RT K Int × RTs K [])) : RT K Int × RTs K [Int])) : RT K Int × RTs K [Int, Int])) : RT K (Int × Int) × RTs K [Int, Int, Int])) : RT K TreeD × RTs K [(Int × Int), Int, Int, Int])
abbrev T_raised_Gr (K : Fr) (C : Nat → Addr) (v0 v1 v2 : V) : RTs K T_raised_T := ((RT.dead K TreeD, ((RT.dead K (Int × Int), ((RT.dead K Int, ((RT.dead K Int, ((RT.dead K Int, ()) : RT K Int × RTs K [])) : RT K Int × RTs K [Int])) : RT K Int × RTs K [Int, Int])) : RT K (Int × Int) × RTs K [Int, Int, Int])) : RT K TreeD × RTs K [(Int × Int), Int, Int, Int])
abbrev T_raised_R (K : Fr) (C : Nat → Addr) : RT K (Int × Int) := RT.dat K (Int × Int)
noncomputable def T_raised_m : MS T_raised_T (Int × Int) := (sSeq (sAsgG (fun z s => T_raised_up.set (some z.2) (T_raised_node.set (some z.1) s)) (mV T_raised_point))
  (sSeq (sWhile (mAnd (m2 igt (mV T_raised_node) (mC (0 : Int))) (m2 ige (m2 iadd (mV T_raised_up) (mV T_raised_far)) (m2 idx (m1 fLs (mV T_raised_self)) (mV T_raised_node)))) (sSeq (sAsg T_raised_far (m2 isub (mV T_raised_far) (m2 isub (m2 idx (m1 fLs (mV T_raised_self)) (mV T_raised_node)) (mV T_raised_up))))
  (sPar T_raised_node T_raised_up (m2 idx (m1 fPs (mV T_raised_self)) (mV T_raised_node)) (mC (0 : Int)))))
  (sRet (m2 pair (mV T_raised_node) (m2 iadd (mV T_raised_up) (mV T_raised_far))))))
noncomputable abbrev T_raised_fs (K : Fr) (C : Nat → Addr) : Fs K := { ps := T_raised_ps, Γp := (((RT.tree K (C 0), ((RT.dat K (Int × Int), ((RT.dat K Int, ()) : RT K Int × RTs K [])) : RT K (Int × Int) × RTs K [Int])) : RT K TreeD × RTs K [(Int × Int), Int]) : RTs K T_raised_ps), Γo := (((RT.dead K TreeD, ((RT.dead K (Int × Int), ((RT.dead K Int, ()) : RT K Int × RTs K [])) : RT K (Int × Int) × RTs K [Int])) : RT K TreeD × RTs K [(Int × Int), Int]) : RTs K T_raised_ps), ρ := (Int × Int), R := T_raised_R K C, f := (bodyF (ps := T_raised_ps) (ls := T_raised_ls) T_raised_m) }
theorem T_raised_sc : FnScope ["self", "point", "far", "node", "up"] ["self", "point", "far"] (defScope (inClass (topS 7) 9)) := ⟨rfl, rfl, rfl, by decide +kernel, rfl, by decide +kernel, by decide +kernel⟩
theorem T_raised_ok {fa : Addr} {fd : FuncData} (F : Fun K "raised" "Tree.raised" (inClass (topS 7) 9) fa fd) (TC0 : TC K (C 0)) : FnOk Pr w K mg base CX0 1 fa fd ["self", "point", "far"] (spF (T_raised_fs K C)) := by
  refine fs_ok (k := 0) F T_raised_sc (ps := T_raised_ps) (ls := T_raised_ls) (m := T_raised_m) rfl rfl fun cdv A outer s H vs E hl hr => ?_
  obtain ⟨v0, v1, v2, rfl⟩ := len3 hl
  have hu : (A.deeper (PyProof.Rows.envOfC "Tree.raised" (defScope (inClass (topS 7) 9)) s.heap.objs.size fa cdv)).units + 65 < cLine := by have := hr.un; omega
  refine ⟨T_raised_G K C v0 v1 v2, T_raised_Gr K C v0 v1 v2, T_raised_G K C v0 v1 v2, ⟨fun _ _ _ _ _ _ h => h, fun _ _ _ _ _ _ h => h, fun _ _ _ _ _ _ h => h, trivial⟩, ⟨fun _ _ _ _ _ _ _ _ => trivial, fun _ _ _ _ _ _ _ _ => trivial, fun _ _ _ _ _ _ _ _ => trivial, trivial⟩, ?_⟩
  exact (.cons (Γ1 := T_raised_G _ C v0 v1 v2)
    (.asgG rfl (.name (x := T_raised_point) (pv 1) rfl rfl) (.pair (x := T_raised_node) (y := T_raised_up) rfl T_raised_sc.nd rfl (.inl rfl) rfl (.inl rfl) (by decide)))
  (.cons (Γ1 := T_raised_G _ C v0 v1 v2)
    (.while_ PassesOwn.never (.ofW (.and (.ofC (.gt (.name (x := T_raised_node) (pv 3) rfl rfl) .int)) (.and1 (.ofC (.ge (.add (.name (x := T_raised_up) (pv 4) rfl rfl) (.name (x := T_raised_far) (pv 2) rfl rfl)) (.idx (.fLs TC0 (.name (x := T_raised_self) (pv 0) rfl rfl)) (.name (x := T_raised_node) (pv 3) rfl rfl))))))) (.cons (Γ1 := T_raised_G _ C v0 v1 v2)
    (.asg (x := T_raised_far) (.sub (.name (x := T_raised_far) (pv 2) rfl rfl) (.sub (.idx (.fLs TC0 (.name (x := T_raised_self) (pv 0) rfl rfl)) (.name (x := T_raised_node) (pv 3) rfl rfl)) (.name (x := T_raised_up) (pv 4) rfl rfl))) T_raised_sc.nd rfl (.inl rfl))
  (.one (.par (x := T_raised_node) (y := T_raised_up) rfl T_raised_sc.nd rfl rfl (by decide) rfl rfl (.idx (.fPs TC0 (.name (x := T_raised_self) (pv 0) rfl rfl)) (.name (x := T_raised_node) (pv 3) rfl rfl)) .int rfl))) ⟨.inl rfl, ⟨.inl rfl, ⟨.inl rfl, ⟨.inl rfl, ⟨.inl rfl, trivial⟩⟩⟩⟩⟩)
  (.one (.ret (.pair (.name (x := T_raised_node) (pv 3) rfl rfl) (.add (.name (x := T_raised_up) (pv 4) rfl rfl) (.name (x := T_raised_far) (pv 2) rfl rfl))) ⟨.inr rfl, ⟨.inr rfl, ⟨.inr rfl, ⟨.inr rfl, ⟨.inr rfl, trivial⟩⟩⟩⟩⟩))))
abbrev T_linked_N : List Str := ["self", "node", "found", "mate"]
abbrev T_linked_ps : List Type := [TreeD, Int]
abbrev T_linked_ls : List Type := [List Int, Int]
abbrev T_linked_T : List Type := [TreeD, Int, List Int, Int]
abbrev T_linked_self : Var T_linked_T TreeD := .vz
abbrev T_linked_node : Var T_linked_T Int := .vs .vz
abbrev T_linked_found : Var T_linked_T (List Int) := .vs (.vs .vz)
abbrev T_linked_mate : Var T_linked_T Int := .vs (.vs (.vs .vz))
abbrev T_linked_G (K : Fr) (C : Nat → Addr) (v0 v1 : V) : RTs K T_linked_T := ((RT.tree K (C 0), ((RT.dat K Int, ((RT.own K Int, ((RT.dat K Int, ()) : RT K Int × RTs K [])) : RT K (List Int) × RTs K [Int])) : RT K Int × RTs K [List Int, Int])) : RT K TreeD × RTs K [Int, List Int, Int])
abbrev T_linked_Gr (K : Fr) (C : Nat → Addr) (v0 v1 : V) : RTs K T_linked_T := ((RT.dead K TreeD, ((RT.dead K Int, ((RT.dead K (List Int), ((RT.dead K Int, ()) : RT K Int × RTs K [])) : RT K (List Int) × RTs K [Int])) : RT K Int × RTs K [List Int, Int])) : RT K TreeD × RTs K [Int, List Int, Int])
abbrev T_linked_R (K : Fr) (C : Nat → Addr) : RT K (List Int) := RT.own K Int
noncomputable def T_linked_m : MS T_linked_T (List Int) := (sSeq (sAsg T_linked_found (mLc (m2 rng2 (mC (1 : Int)) (m1 ilen (m1 fPs (mV T_linked_self)))) (fun y s => T_linked_mate.set (some y) s) (Own.one T_linked_mate).rs (m2 ieq (m2 idx (m1 fPs (mV T_linked_self)) (mV T_linked_mate)) (mV T_linked_node)) (mV T_linked_mate)))
  (sRet (mIte (m2 igt (mV T_linked_node) (mC (0 : Int))) (m2 catl (m1 lstO (m2 consO (m2 idx (m1 fPs (mV T_linked_self)) (mV T_linked_node)) (mC ([] : List Int)))) (mV T_linked_found)) (mTake T_linked_found))))
noncomputable abbrev T_linked_fs (K : Fr) (C : Nat → Addr) : Fs K := { ps := T_linked_ps, Γp := (((RT.tree K (C 0), ((RT.dat K Int, ()) : RT K Int × RTs K [])) : RT K TreeD × RTs K [Int]) : RTs K T_linked_ps), Γo := (((RT.dead K TreeD, ((RT.dead K Int, ()) : RT K Int × RTs K [])) : RT K TreeD × RTs K [Int]) : RTs K T_linked_ps), ρ := List Int, R := T_linked_R K C, f := (bodyF (ps := T_linked_ps) (ls := T_linked_ls) T_linked_m) }
theorem T_linked_sc : FnScope ["self", "node", "found", "mate"] ["self", "node"] (defScope (inClass (topS 7) 11)) := ⟨rfl, rfl, rfl, by decide +kernel, rfl, by decide +kernel, by decide +kernel⟩
theorem T_linked_ok {fa : Addr} {fd : FuncData} (F : Fun K "linked" "Tree.linked" (inClass (topS 7) 11) fa fd) (TC0 : TC K (C 0)) (z_range : mg "range" = none) (z_len : mg "len" = none) : FnOk Pr w K mg base CX0 1 fa fd ["self", "node"] (spF (T_linked_fs K C)) := by
  refine fs_ok (k := 0) F T_linked_sc (ps := T_linked_ps) (ls := T_linked_ls) (m := T_linked_m) rfl rfl fun cdv A outer s H vs E hl hr => ?_
  obtain ⟨v0, v1, rfl⟩ := len2 hl
  have hu : (A.deeper (PyProof.Rows.envOfC "Tree.linked" (defScope (inClass (topS 7) 11)) s.heap.objs.size fa cdv)).units + 65 < cLine := by have := hr.un; omega
  refine ⟨T_linked_G K C v0 v1, T_linked_Gr K C v0 v1, T_linked_G K C v0 v1, ⟨fun _ _ _ _ _ _ h => h, fun _ _ _ _ _ _ h => h, trivial⟩, ⟨fun _ _ _ _ _ _ _ _ => trivial, fun _ _ _ _ _ _ _ _ => trivial, trivial⟩, ?_⟩
  exact (.cons (Γ1 := T_linked_G _ C v0 v1)
    (.asgLcG (z := T_linked_found) (Γb := (T_linked_G _ C v0 v1)) (own := [("mate", 3)]) rfl T_linked_sc.nd (blkOk_by (N := T_linked_N) (sc := defScope (inClass (topS 7) 11)) (by decide +kernel)) (Own.one T_linked_mate) rfl rfl (sw_true rfl rfl rfl (by decide +kernel)) (.range2 (by rfl) z_range .int (.len (by rfl) z_len (.fPs TC0 (.name (x := T_linked_self) (pv 0) rfl rfl)))) (fixAt rfl) (fun _ _ _ => rfl) (fun _ _ _ _ _ => (.name (x := T_linked_mate) rfl T_linked_sc.nd rfl (.inl rfl))) (fun _ _ _ _ _ => (XTs.one (.ofC (.eq (.idx (.fPs TC0 (.name (x := T_linked_self) (pv 0) rfl rfl)) (.name (x := T_linked_mate) (pv 3) rfl rfl)) (.name (x := T_linked_node) (pv 1) rfl rfl) hu)))) (fun _ _ _ _ _ => (.name (x := T_linked_mate) (pv 3) rfl rfl)) (tr := fun t h => h))
  (.one (.ret (.ite (.ofC (.gt (.name (x := T_linked_node) (pv 1) rfl rfl) .int)) (.borrow T_linked_found (.cat (.dat (.lst (.cons (.idx (.fPs TC0 (.name (x := T_linked_self) (pv 0) rfl rfl)) (.name (x := T_linked_node) (pv 1) rfl rfl)) .nil))) (.var (x := T_linked_found) (pv 2) rfl rfl (fun _ _ _ h => h))) (lin_of rfl)) (.takeR (x := T_linked_found) (pv 2) rfl)) ⟨.inr rfl, ⟨.inr rfl, ⟨.inr rfl, ⟨.inr rfl, trivial⟩⟩⟩⟩)))
abbrev is_pair_ps : List Type := [(Int × Int)]
abbrev is_pair_ls : List Type := []
abbrev is_pair_T : List Type := [(Int × Int)]
abbrev is_pair_value : Var is_pair_T (Int × Int) := .vz
abbrev is_pair_G (K : Fr) (C : Nat → Addr) (v0 : V) : RTs K is_pair_T := ((RT.dat K (Int × Int), ()) : RT K (Int × Int) × RTs K [])
abbrev is_pair_Gr (K : Fr) (C : Nat → Addr) (v0 : V) : RTs K is_pair_T := ((RT.dead K (Int × Int), ()) : RT K (Int × Int) × RTs K [])
abbrev is_pair_R (K : Fr) (C : Nat → Addr) : RT K Bool := RT.dat K Bool
noncomputable def is_pair_m : MS is_pair_T Bool := (sRet (mAnd (m1 (isT true) (mV is_pair_value)) (mAnd (m2 ieq (m1 lenP (mV is_pair_value)) (mC (2 : Int))) (mAnd (mCall (.v .nil) (bodyF (ps := is_integer_ps) (ls := is_integer_ls) is_integer_m) (aV (m1 fst' (mV is_pair_value)) aNil)) (mCall (.v .nil) (bodyF (ps := is_integer_ps) (ls := is_integer_ls) is_integer_m) (aV (m1 snd' (mV is_pair_value)) aNil))))))
noncomputable abbrev is_pair_fs (K : Fr) (C : Nat → Addr) : Fs K := { ps := is_pair_ps, Γp := (((RT.dat K (Int × Int), ()) : RT K (Int × Int) × RTs K []) : RTs K is_pair_ps), Γo := (((RT.dead K (Int × Int), ()) : RT K (Int × Int) × RTs K []) : RTs K is_pair_ps), ρ := Bool, R := is_pair_R K C, f := (bodyF (ps := is_pair_ps) (ls := is_pair_ls) is_pair_m) }
theorem is_pair_sc : FnScope ["value"] ["value"] (defScope (topS 6)) := ⟨rfl, rfl, rfl, by decide +kernel, rfl, by decide +kernel, by decide +kernel⟩
theorem is_pair_ok {fa : Addr} {fd : FuncData} (F : Fun K "is_pair" "is_pair" (topS 6) fa fd) (TC0 : TC K (C 0)) {a_is_integer : Addr} {d_is_integer : FuncData} (G_is_integer : FnOk Pr w K mg base CX0 1 a_is_integer d_is_integer ["value"] (spF (is_integer_fs K C))) (b_is_integer : Binds K d_is_integer ["value"] []) (g_is_integer : mg "is_integer" = some (.ref a_is_integer)) (k_is_integer : PySem.W.keepIn K (.ref a_is_integer) = true) (z_isinstance : mg "isinstance" = none) (z_tuple : mg "tuple" = none) (z_len : mg "len" = none) : FnOk Pr w K mg base CX0 2 fa fd ["value"] (spF (is_pair_fs K C)) := by
  refine fs_ok (k := 1) F is_pair_sc (ps := is_pair_ps) (ls := is_pair_ls) (m := is_pair_m) rfl rfl fun cdv A outer s H vs E hl hr => ?_
  obtain ⟨v0, rfl⟩ := len1 hl
  have hu : (A.deeper (PyProof.Rows.envOfC "is_pair" (defScope (topS 6)) s.heap.objs.size fa cdv)).units + 65 < cLine := by have := hr.un; omega
  refine ⟨is_pair_G K C v0, is_pair_Gr K C v0, is_pair_G K C v0, ⟨fun _ _ _ _ _ _ h => h, trivial⟩, ⟨fun _ _ _ _ _ _ _ _ => trivial, trivial⟩, ?_⟩
  exact (.one (.ret (.and (.isinst (T := "tuple") (t := "tuple") (T' := "tuple") (r := true) ty_tup2 (by decide +kernel) (by rfl) z_isinstance (by rfl) z_tuple (by decide +kernel) (.name (x := is_pair_value) (pv 0) rfl rfl)) (.and (.ofC (.eq (.len2 (by rfl) z_len (.name (x := is_pair_value) (pv 0) rfl rfl)) .int hu)) (.and (.call (.v .nil) G_is_integer (hr.mono (by decide)) (by rfl) g_is_integer k_is_integer b_is_integer (.v rfl (.fst (.name (x := is_pair_value) (pv 0) rfl rfl)) XA.nil) (om := trivial)) (.one (.call (.v .nil) G_is_integer (hr.mono (by decide)) (by rfl) g_is_integer k_is_integer b_is_integer (.v rfl (.snd (.name (x := is_pair_value) (pv 0) rfl rfl)) XA.nil) (om := trivial)))))) ⟨.inr rfl, trivial⟩))
abbrev l_roads_ps : List Type := [List Int, Int, Int]
abbrev l_roads_ls : List Type := [List (Int × Int), Int]
abbrev l_roads_T : List Type := [List Int, Int, Int, List (Int × Int), Int]
abbrev l_roads_digits : Var l_roads_T (List Int) := .vz
abbrev l_roads_most : Var l_roads_T Int := .vs .vz
abbrev l_roads_longest : Var l_roads_T Int := .vs (.vs .vz)
abbrev l_roads_roads : Var l_roads_T (List (Int × Int)) := .vs (.vs (.vs .vz))
abbrev l_roads_node : Var l_roads_T Int := .vs (.vs (.vs (.vs .vz)))
abbrev l_roads_G (K : Fr) (C : Nat → Addr) (v0 v1 v2 : V) : RTs K l_roads_T := ((RT.at v0 (RT.own K Int), ((RT.dat K Int, ((RT.dat K Int, ((RT.own K (Int × Int), ((RT.dat K Int, ()) : RT K Int × RTs K [])) : RT K (List (Int × Int)) × RTs K [Int])) : RT K Int × RTs K [List (Int × Int), Int])) : RT K Int × RTs K [Int, List (Int × Int), Int])) : RT K (List Int) × RTs K [Int, Int, List (Int × Int), Int])
abbrev l_roads_Gr (K : Fr) (C : Nat → Addr) (v0 v1 v2 : V) : RTs K l_roads_T := ((RT.at v0 (RT.own K Int), ((RT.dead K Int, ((RT.dead K Int, ((RT.dead K (List (Int × Int)), ((RT.dead K Int, ()) : RT K Int × RTs K [])) : RT K (List (Int × Int)) × RTs K [Int])) : RT K Int × RTs K [List (Int × Int), Int])) : RT K Int × RTs K [Int, List (Int × Int), Int])) : RT K (List Int) × RTs K [Int, Int, List (Int × Int), Int])
abbrev l_roads_R (K : Fr) (C : Nat → Addr) : RT K (List (Int × Int)) := RT.own K (Int × Int)
noncomputable def l_roads_m : MS l_roads_T (List (Int × Int)) := (sSeq (sAsg l_roads_roads (m1 lstO (mC ([] : List (Int × Int)))))
  (sSeq (sFor (m2 rng2 (mC (1 : Int)) (m2 iadd (mC (1 : Int)) (mCall (.m l_roads_digits (.v .nil)) (bodyF (ps := l_take_ps) (ls := l_take_ls) l_take_m) (aM l_roads_digits (aV (mV l_roads_most) aNil))))) (fun y s => l_roads_node.set (some y) s) (sApp l_roads_roads (m2 pair (mCall (.m l_roads_digits (.v .nil)) (bodyF (ps := l_take_ps) (ls := l_take_ls) l_take_m) (aM l_roads_digits (aV (mV l_roads_node) aNil))) (m2 iadd (mC (1 : Int)) (mCall (.m l_roads_digits (.v .nil)) (bodyF (ps := l_take_ps) (ls := l_take_ls) l_take_m) (aM l_roads_digits (aV (mV l_roads_longest) aNil)))))))
  (sRet (mV l_roads_roads))))
noncomputable abbrev l_roads_fs (K : Fr) (C : Nat → Addr) : Fs K := { ps := l_roads_ps, Γp := (((RT.own K Int, ((RT.dat K Int, ((RT.dat K Int, ()) : RT K Int × RTs K [])) : RT K Int × RTs K [Int])) : RT K (List Int) × RTs K [Int, Int]) : RTs K l_roads_ps), Γo := (((RT.own K Int, ((RT.dead K Int, ((RT.dead K Int, ()) : RT K Int × RTs K [])) : RT K Int × RTs K [Int])) : RT K (List Int) × RTs K [Int, Int]) : RTs K l_roads_ps), ρ := List (Int × Int), R := l_roads_R K C, f := (bodyF (ps := l_roads_ps) (ls := l_roads_ls) l_roads_m) }
theorem l_roads_sc : FnScope ["digits", "most", "longest", "roads", "node"] ["digits", "most", "longest"] (defScope (topS 12)) := ⟨rfl, rfl, rfl, by decide +kernel, rfl, by decide +kernel, by decide +kernel⟩
theorem l_roads_ok {fa : Addr} {fd : FuncData} (F : Fun K "_law_roads" "_law_roads" (topS 12) fa fd) (TC0 : TC K (C 0)) {a_l_take : Addr} {d_l_take : FuncData} (G_l_take : FnOk Pr w K mg base CX0 1 a_l_take d_l_take ["digits", "many"] (spF (l_take_fs K C))) (b_l_take : Binds K d_l_take ["digits", "many"] []) (g_l_take : mg "_law_take" = some (.ref a_l_take)) (k_l_take : PySem.W.keepIn K (.ref a_l_take) = true) (z_range : mg "range" = none) : FnOk Pr w K mg base CX0 2 fa fd ["digits", "most", "longest"] (spF (l_roads_fs K C)) := by
  refine fs_ok (k := 1) F l_roads_sc (ps := l_roads_ps) (ls := l_roads_ls) (m := l_roads_m) rfl rfl fun cdv A outer s H vs E hl hr => ?_
  obtain ⟨v0, v1, v2, rfl⟩ := len3 hl
  have hu : (A.deeper (PyProof.Rows.envOfC "_law_roads" (defScope (topS 12)) s.heap.objs.size fa cdv)).units + 65 < cLine := by have := hr.un; omega
  refine ⟨l_roads_G K C v0 v1 v2, l_roads_Gr K C v0 v1 v2, l_roads_G K C v0 v1 v2, ⟨fun v G H x A e h => ⟨(Option.some.inj e).symm, h⟩, fun _ _ _ _ _ _ h => h, fun _ _ _ _ _ _ h => h, trivial⟩, ⟨fun v u G H x A e h => by cases (Option.some.inj e); cases h.1; exact h.2, fun _ _ _ _ _ _ _ _ => trivial, fun _ _ _ _ _ _ _ _ => trivial, trivial⟩, ?_⟩
  exact (.cons (Γ1 := l_roads_G _ C v0 v1 v2)
    (.asg (x := l_roads_roads) (.lst .nil) l_roads_sc.nd rfl (.inl rfl))
  (.cons (Γ1 := l_roads_G _ C v0 v1 v2)
    (.for_ (Γt := l_roads_G _ C v0 v1 v2) PassesOwn.never rfl (.range2 (by rfl) z_range .int (.add .int (.call (.m l_roads_digits (.v .nil)) G_l_take (hr.mono (by decide)) (by rfl) g_l_take k_l_take b_l_take (.m (x := l_roads_digits) (pv 0) .at rfl (.v rfl (.name (x := l_roads_most) (pv 1) rfl rfl) XA.nil)) (om := ⟨rfl, trivial⟩)))) ⟨.inl rfl, ⟨.inl rfl, ⟨.inl rfl, ⟨.inl rfl, ⟨.inl rfl, trivial⟩⟩⟩⟩⟩ (.name (x := l_roads_node) rfl l_roads_sc.nd rfl (.inl rfl)) (.one (.app (x := l_roads_roads) (pv 3) .refl (.pair (.call (.m l_roads_digits (.v .nil)) G_l_take (hr.mono (by decide)) (by rfl) g_l_take k_l_take b_l_take (.m (x := l_roads_digits) (pv 0) .at rfl (.v rfl (.name (x := l_roads_node) (pv 4) rfl rfl) XA.nil)) (om := ⟨rfl, trivial⟩)) (.add .int (.call (.m l_roads_digits (.v .nil)) G_l_take (hr.mono (by decide)) (by rfl) g_l_take k_l_take b_l_take (.m (x := l_roads_digits) (pv 0) .at rfl (.v rfl (.name (x := l_roads_longest) (pv 2) rfl rfl) XA.nil)) (om := ⟨rfl, trivial⟩)))))))
  (.one (.retV (x := l_roads_roads) (pv 3) rfl ⟨.inl rfl, ⟨.inr rfl, ⟨.inr rfl, ⟨.inr rfl, ⟨.inr rfl, trivial⟩⟩⟩⟩⟩))))
abbrev l_point_ps : List Type := [List Int, List (Int × Int)]
abbrev l_point_ls : List Type := [Int]
abbrev l_point_T : List Type := [List Int, List (Int × Int), Int]
abbrev l_point_digits : Var l_point_T (List Int) := .vz
abbrev l_point_roads : Var l_point_T (List (Int × Int)) := .vs .vz
abbrev l_point_node : Var l_point_T Int := .vs (.vs .vz)
abbrev l_point_G (K : Fr) (C : Nat → Addr) (v0 v1 : V) : RTs K l_point_T := ((RT.at v0 (RT.own K Int), ((RT.dat K (List (Int × Int)), ((RT.dat K Int, ()) : RT K Int × RTs K [])) : RT K (List (Int × Int)) × RTs K [Int])) : RT K (List Int) × RTs K [List (Int × Int), Int])
abbrev l_point_Gr (K : Fr) (C : Nat → Addr) (v0 v1 : V) : RTs K l_point_T := ((RT.at v0 (RT.own K Int), ((RT.dead K (List (Int × Int)), ((RT.dead K Int, ()) : RT K Int × RTs K [])) : RT K (List (Int × Int)) × RTs K [Int])) : RT K (List Int) × RTs K [List (Int × Int), Int])
abbrev l_point_R (K : Fr) (C : Nat → Addr) : RT K (Int × Int) := RT.dat K (Int × Int)
noncomputable def l_point_m : MS l_point_T (Int × Int) := (sSeq (sAsg l_point_node (mCall (.m l_point_digits (.v .nil)) (bodyF (ps := l_take_ps) (ls := l_take_ls) l_take_m) (aM l_point_digits (aV (m2 iadd (m1 ilen (mV l_point_roads)) (mC (1 : Int))) aNil))))
  (sSeq (sIf (mOr (m2 ieq (mV l_point_node) (mC (0 : Int))) (m2 ieq (mCall (.m l_point_digits (.v .nil)) (bodyF (ps := l_take_ps) (ls := l_take_ls) l_take_m) (aM l_point_digits (aV (mC (3 : Int)) aNil))) (mC (0 : Int)))) (sRet (m2 pair (mV l_point_node) (mC (0 : Int)))) sSkip)
  (sRet (m2 pair (mV l_point_node) (mCall (.m l_point_digits (.v .nil)) (bodyF (ps := l_take_ps) (ls := l_take_ls) l_take_m) (aM l_point_digits (aV (m1 snd' (m2 idx (mV l_point_roads) (m2 isub (mV l_point_node) (mC (1 : Int))))) aNil)))))))
noncomputable abbrev l_point_fs (K : Fr) (C : Nat → Addr) : Fs K := { ps := l_point_ps, Γp := (((RT.own K Int, ((RT.dat K (List (Int × Int)), ()) : RT K (List (Int × Int)) × RTs K [])) : RT K (List Int) × RTs K [List (Int × Int)]) : RTs K l_point_ps), Γo := (((RT.own K Int, ((RT.dead K (List (Int × Int)), ()) : RT K (List (Int × Int)) × RTs K [])) : RT K (List Int) × RTs K [List (Int × Int)]) : RTs K l_point_ps), ρ := (Int × Int), R := l_point_R K C, f := (bodyF (ps := l_point_ps) (ls := l_point_ls) l_point_m) }
theorem l_point_sc : FnScope ["digits", "roads", "node"] ["digits", "roads"] (defScope (topS 13)) := ⟨rfl, rfl, rfl, by decide +kernel, rfl, by decide +kernel, by decide +kernel⟩
theorem l_point_ok {fa : Addr} {fd : FuncData} (F : Fun K "_law_point" "_law_point" (topS 13) fa fd) (TC0 : TC K (C 0)) {a_l_take : Addr} {d_l_take : FuncData} (G_l_take : FnOk Pr w K mg base CX0 1 a_l_take d_l_take ["digits", "many"] (spF (l_take_fs K C))) (b_l_take : Binds K d_l_take ["digits", "many"] []) (g_l_take : mg "_law_take" = some (.ref a_l_take)) (k_l_take : PySem.W.keepIn K (.ref a_l_take) = true) (z_len : mg "len" = none) : FnOk Pr w K mg base CX0 2 fa fd ["digits", "roads"] (spF (l_point_fs K C)) := by
  refine fs_ok (k := 1) F l_point_sc (ps := l_point_ps) (ls := l_point_ls) (m := l_point_m) rfl rfl fun cdv A outer s H vs E hl hr => ?_
  obtain ⟨v0, v1, rfl⟩ := len2 hl
  have hu : (A.deeper (PyProof.Rows.envOfC "_law_point" (defScope (topS 13)) s.heap.objs.size fa cdv)).units + 65 < cLine := by have := hr.un; omega
  refine ⟨l_point_G K C v0 v1, l_point_Gr K C v0 v1, l_point_G K C v0 v1, ⟨fun v G H x A e h => ⟨(Option.some.inj e).symm, h⟩, fun _ _ _ _ _ _ h => h, trivial⟩, ⟨fun v u G H x A e h => by cases (Option.some.inj e); cases h.1; exact h.2, fun _ _ _ _ _ _ _ _ => trivial, trivial⟩, ?_⟩
  exact (.cons (Γ1 := l_point_G _ C v0 v1)
    (.asg (x := l_point_node) (.call (.m l_point_digits (.v .nil)) G_l_take (hr.mono (by decide)) (by rfl) g_l_take k_l_take b_l_take (.m (x := l_point_digits) (pv 0) .at rfl (.v rfl (.add (.len (by rfl) z_len (.name (x := l_point_roads) (pv 1) rfl rfl)) .int) XA.nil)) (om := ⟨rfl, trivial⟩)) l_point_sc.nd rfl (.inl rfl))
  (.cons (Γ1 := l_point_G _ C v0 v1)
    (.ite (.ofW (.or (.ofC (.eq (.name (x := l_point_node) (pv 2) rfl rfl) .int hu)) (.or1 (.ofC (.eq (.call (.m l_point_digits (.v .nil)) G_l_take (hr.mono (by decide)) (by rfl) g_l_take k_l_take b_l_take (.m (x := l_point_digits) (pv 0) .at rfl (.v rfl .int XA.nil)) (om := ⟨rfl, trivial⟩)) .int hu))))) (.one (.ret (.pair (.name (x := l_point_node) (pv 2) rfl rfl) .int) ⟨.inl rfl, ⟨.inr rfl, ⟨.inr rfl, trivial⟩⟩⟩)) XSs.nil)
  (.one (.ret (.pair (.name (x := l_point_node) (pv 2) rfl rfl) (.call (.m l_point_digits (.v .nil)) G_l_take (hr.mono (by decide)) (by rfl) g_l_take k_l_take b_l_take (.m (x := l_point_digits) (pv 0) .at rfl (.v rfl (.snd (.idx (.name (x := l_point_roads) (pv 1) rfl rfl) (.sub (.name (x := l_point_node) (pv 2) rfl rfl) .int))) XA.nil)) (om := ⟨rfl, trivial⟩))) ⟨.inl rfl, ⟨.inr rfl, ⟨.inr rfl, trivial⟩⟩⟩))))
abbrev l_way_ps : List Type := [List (Int × Int), (Int × Int), (Int × Int)]
abbrev l_way_ls : List Type := [List (Int × Int), List (Int × Int)]
abbrev l_way_T : List Type := [List (Int × Int), (Int × Int), (Int × Int), List (Int × Int), List (Int × Int)]
abbrev l_way_roads : Var l_way_T (List (Int × Int)) := .vz
abbrev l_way_one : Var l_way_T (Int × Int) := .vs .vz
abbrev l_way_other : Var l_way_T (Int × Int) := .vs (.vs .vz)
abbrev l_way_left : Var l_way_T (List (Int × Int)) := .vs (.vs (.vs .vz))
abbrev l_way_right : Var l_way_T (List (Int × Int)) := .vs (.vs (.vs (.vs .vz)))
abbrev l_way_G (K : Fr) (C : Nat → Addr) (v0 v1 v2 : V) : RTs K l_way_T := ((RT.dat K (List (Int × Int)), ((RT.dat K (Int × Int), ((RT.dat K (Int × Int), ((RT.own K (Int × Int), ((RT.own K (Int × Int), ()) : RT K (List (Int × Int)) × RTs K [])) : RT K (List (Int × Int)) × RTs K [List (Int × Int)])) : RT K (Int × Int) × RTs K [List (Int × Int), List (Int × Int)])) : RT K (Int × Int) × RTs K [(Int × Int), List (Int × Int), List (Int × Int)])) : RT K (List (Int × Int)) × RTs K [(Int × Int), (Int × Int), List (Int × Int), List (Int × Int)])
abbrev l_way_Gr (K : Fr) (C : Nat → Addr) (v0 v1 v2 : V) : RTs K l_way_T := ((RT.dead K (List (Int × Int)), ((RT.dead K (Int × Int), ((RT.dead K (Int × Int), ((RT.dead K (List (Int × Int)), ((RT.dead K (List (Int × Int)), ()) : RT K (List (Int × Int)) × RTs K [])) : RT K (List (Int × Int)) × RTs K [List (Int × Int)])) : RT K (Int × Int) × RTs K [List (Int × Int), List (Int × Int)])) : RT K (Int × Int) × RTs K [(Int × Int), List (Int × Int), List (Int × Int)])) : RT K (List (Int × Int)) × RTs K [(Int × Int), (Int × Int), List (Int × Int), List (Int × Int)])
abbrev l_way_R (K : Fr) (C : Nat → Addr) : RT K (List (Int × Int)) := RT.own K (Int × Int)
noncomputable def l_way_m : MS l_way_T (List (Int × Int)) := (sSeq (sPar l_way_left l_way_right (mCall (.v (.v .nil)) (bodyF (ps := l_climb_ps) (ls := l_climb_ls) l_climb_m) (aV (mV l_way_roads) (aV (mV l_way_one) aNil))) (mCall (.v (.v .nil)) (bodyF (ps := l_climb_ps) (ls := l_climb_ls) l_climb_m) (aV (mV l_way_roads) (aV (mV l_way_other) aNil))))
  (sSeq (sWhile (mAnd (m2 igt (m1 ilen (mV l_way_left)) (mC (1 : Int))) (mAnd (m2 igt (m1 ilen (mV l_way_right)) (mC (1 : Int))) (m2 ieq (m2 idx (mV l_way_left) (m1 ineg (mC (2 : Int)))) (m2 idx (mV l_way_right) (m1 ineg (mC (2 : Int))))))) (sSeq (sDrop (mPop l_way_left))
  (sDrop (mPop l_way_right))))
  (sRet (m2 catl (mV l_way_left) (m1 revl (m2 slcB (mV l_way_right) (m1 ineg (mC (1 : Int)))))))))
noncomputable abbrev l_way_fs (K : Fr) (C : Nat → Addr) : Fs K := { ps := l_way_ps, Γp := (((RT.dat K (List (Int × Int)), ((RT.dat K (Int × Int), ((RT.dat K (Int × Int), ()) : RT K (Int × Int) × RTs K [])) : RT K (Int × Int) × RTs K [(Int × Int)])) : RT K (List (Int × Int)) × RTs K [(Int × Int), (Int × Int)]) : RTs K l_way_ps), Γo := (((RT.dead K (List (Int × Int)), ((RT.dead K (Int × Int), ((RT.dead K (Int × Int), ()) : RT K (Int × Int) × RTs K [])) : RT K (Int × Int) × RTs K [(Int × Int)])) : RT K (List (Int × Int)) × RTs K [(Int × Int), (Int × Int)]) : RTs K l_way_ps), ρ := List (Int × Int), R := l_way_R K C, f := (bodyF (ps := l_way_ps) (ls := l_way_ls) l_way_m) }
theorem l_way_sc : FnScope ["roads", "one", "other", "left", "right"] ["roads", "one", "other"] (defScope (topS 15)) := ⟨rfl, rfl, rfl, by decide +kernel, rfl, by decide +kernel, by decide +kernel⟩
theorem l_way_ok {fa : Addr} {fd : FuncData} (F : Fun K "_law_way" "_law_way" (topS 15) fa fd) (TC0 : TC K (C 0)) {a_l_climb : Addr} {d_l_climb : FuncData} (G_l_climb : FnOk Pr w K mg base CX0 1 a_l_climb d_l_climb ["roads", "point"] (spF (l_climb_fs K C))) (b_l_climb : Binds K d_l_climb ["roads", "point"] []) (g_l_climb : mg "_law_climb" = some (.ref a_l_climb)) (k_l_climb : PySem.W.keepIn K (.ref a_l_climb) = true) (z_len : mg "len" = none) : FnOk Pr w K mg base CX0 2 fa fd ["roads", "one", "other"] (spF (l_way_fs K C)) := by
  refine fs_ok (k := 1) F l_way_sc (ps := l_way_ps) (ls := l_way_ls) (m := l_way_m) rfl rfl fun cdv A outer s H vs E hl hr => ?_
  obtain ⟨v0, v1, v2, rfl⟩ := len3 hl
  have hu : (A.deeper (PyProof.Rows.envOfC "_law_way" (defScope (topS 15)) s.heap.objs.size fa cdv)).units + 65 < cLine := by have := hr.un; omega
  refine ⟨l_way_G K C v0 v1 v2, l_way_Gr K C v0 v1 v2, l_way_G K C v0 v1 v2, ⟨fun _ _ _ _ _ _ h => h, fun _ _ _ _ _ _ h => h, fun _ _ _ _ _ _ h => h, trivial⟩, ⟨fun _ _ _ _ _ _ _ _ => trivial, fun _ _ _ _ _ _ _ _ => trivial, fun _ _ _ _ _ _ _ _ => trivial, trivial⟩, ?_⟩
  exact (.cons (Γ1 := l_way_G _ C v0 v1 v2)
    (.par (x := l_way_left) (y := l_way_right) rfl l_way_sc.nd rfl rfl (by decide) rfl rfl (.call (.v (.v .nil)) G_l_climb (hr.mono (by decide)) (by rfl) g_l_climb k_l_climb b_l_climb (.v rfl (.name (x := l_way_roads) (pv 0) rfl rfl) (.v rfl (.name (x := l_way_one) (pv 1) rfl rfl) XA.nil)) (om := trivial)) (.call (.v (.v .nil)) G_l_climb (hr.mono (by decide)) (by rfl) g_l_climb k_l_climb b_l_climb (.v rfl (.name (x := l_way_roads) (pv 0) rfl rfl) (.v rfl (.name (x := l_way_other) (pv 2) rfl rfl) XA.nil)) (om := trivial)) rfl)
  (.cons (Γ1 := l_way_G _ C v0 v1 v2)
    (.while_ PassesOwn.never (XT.borrow l_way_right (XT.borrow l_way_left (.ofW (.and (.ofC (.gt (.len (by rfl) z_len (.var (x := l_way_left) (pv 3) rfl rfl (fun _ _ _ h => h))) .int)) (.and (.ofC (.gt (.len (by rfl) z_len (.var (x := l_way_right) (pv 4) rfl rfl (fun _ _ _ h => h))) .int)) (.and1 (.ofC (.eq (.idx (.var (x := l_way_left) (pv 3) rfl rfl (fun _ _ _ h => h)) (.neg .int)) (.idx (.var (x := l_way_right) (pv 4) rfl rfl (fun _ _ _ h => h)) (.neg .int)) hu)))))))) (.cons (Γ1 := l_way_G _ C v0 v1 v2)
    (.drop (.pop (x := l_way_left) (pv 3) .refl rfl))
  (.one (.drop (.pop (x := l_way_right) (pv 4) .refl rfl)))) ⟨.inl rfl, ⟨.inl rfl, ⟨.inl rfl, ⟨.inl rfl, ⟨.inl rfl, trivial⟩⟩⟩⟩⟩)
  (.one (.ret (.borrow l_way_right (.borrow l_way_left (.cat (.var (x := l_way_left) (pv 3) rfl rfl (fun _ _ _ h => h)) (.dat (.rev (.dat (.slB (.var (x := l_way_right) (pv 4) rfl rfl (fun _ _ _ h => h)) (.neg .int)))))) (lin_of rfl)) (lin_of rfl)) ⟨.inr rfl, ⟨.inr rfl, ⟨.inr rfl, ⟨.inr rfl, ⟨.inr rfl, trivial⟩⟩⟩⟩⟩))))
abbrev T_numbering_N : List Str := ["self", "node", "order", "row", "below", "upper", "mate"]
abbrev T_numbering_ps : List Type := [TreeD, Int]
abbrev T_numbering_ls : List Type := [List Int, List Int, List Int, Int, Int]
abbrev T_numbering_T : List Type := [TreeD, Int, List Int, List Int, List Int, Int, Int]
abbrev T_numbering_self : Var T_numbering_T TreeD := .vz
abbrev T_numbering_node : Var T_numbering_T Int := .vs .vz
abbrev T_numbering_order : Var T_numbering_T (List Int) := .vs (.vs .vz)
abbrev T_numbering_row : Var T_numbering_T (List Int) := .vs (.vs (.vs .vz))
abbrev T_numbering_below : Var T_numbering_T (List Int) := .vs (.vs (.vs (.vs .vz)))
abbrev T_numbering_upper : Var T_numbering_T Int := .vs (.vs (.vs (.vs (.vs .vz))))
abbrev T_numbering_mate : Var T_numbering_T Int := .vs (.vs (.vs (.vs (.vs (.vs .vz)))))
abbrev T_numbering_G (K : Fr) (C : Nat → Addr) (v0 v1 : V) : RTs K T_numbering_T := ((RT.tree K (C 0), ((RT.dat K Int, ((RT.own K Int, ((RT.dat K (List Int), ((RT.own K Int, ((RT.dat K Int, ((RT.dat K Int, ()) : RT K Int × RTs K [])) : RT K Int × RTs K [Int])) : RT K (List Int) × RTs K [Int, Int])) : RT K (List Int) × RTs K [List Int, Int, Int])) : RT K (List Int) × RTs K [List Int, List Int, Int, Int])) : RT K Int × RTs K [List Int, List Int, List Int, Int, Int])) : RT K TreeD × RTs K [Int, List Int, List Int, List Int, Int, Int])
abbrev T_numbering_Gr (K : Fr) (C : Nat → Addr) (v0 v1 : V) : RTs K T_numbering_T := ((RT.dead K TreeD, ((RT.dead K Int, ((RT.dead K (List Int), ((RT.dead K (List Int), ((RT.dead K (List Int), ((RT.dead K Int, ((RT.dead K Int, ()) : RT K Int × RTs K [])) : RT K Int × RTs K [Int])) : RT K (List Int) × RTs K [Int, Int])) : RT K (List Int) × RTs K [List Int, Int, Int])) : RT K (List Int) × RTs K [List Int, List Int, Int, Int])) : RT K Int × RTs K [List Int, List Int, List Int, Int, Int])) : RT K TreeD × RTs K [Int, List Int, List Int, List Int, Int, Int])
abbrev T_numbering_R (K : Fr) (C : Nat → Addr) : RT K (List Int) := RT.own K Int
noncomputable def T_numbering_m : MS T_numbering_T (List Int) := (sSeq (sAsg T_numbering_order (m1 lstO (m2 consO (mV T_numbering_node) (mC ([] : List Int)))))
  (sSeq (sAsg T_numbering_row (m1 lstO (m2 consO (mV T_numbering_node) (mC ([] : List Int)))))
  (sSeq (sWhile (m2 ine (mV T_numbering_row) (m1 lstO (mC ([] : List Int)))) (sSeq (sAsg T_numbering_below (m1 lstO (mC ([] : List Int))))
  (sSeq (sFor (mV T_numbering_row) (fun y s => T_numbering_upper.set (some y) s) (sExt T_numbering_below (mLc (mCall (.v (.v .nil)) (bodyF (ps := T_linked_ps) (ls := T_linked_ls) T_linked_m) (aV (mV T_numbering_self) (aV (mV T_numbering_upper) aNil))) (fun y s => T_numbering_mate.set (some y) s) (Own.one T_numbering_mate).rs (m2 notin (mV T_numbering_mate) (mV T_numbering_order)) (mV T_numbering_mate))))
  (sSeq (sAsg T_numbering_row (m1 sortI (mV T_numbering_below)))
  (sExt T_numbering_order (mV T_numbering_row))))))
  (sRet (mV T_numbering_order)))))
noncomputable abbrev T_numbering_fs (K : Fr) (C : Nat → Addr) : Fs K := { ps := T_numbering_ps, Γp := (((RT.tree K (C 0), ((RT.dat K Int, ()) : RT K Int × RTs K [])) : RT K TreeD × RTs K [Int]) : RTs K T_numbering_ps), Γo := (((RT.dead K TreeD, ((RT.dead K Int, ()) : RT K Int × RTs K [])) : RT K TreeD × RTs K [Int]) : RTs K T_numbering_ps), ρ := List Int, R := T_numbering_R K C, f := (bodyF (ps := T_numbering_ps) (ls := T_numbering_ls) T_numbering_m) }
theorem T_numbering_sc : FnScope ["self", "node", "order", "row", "below", "upper", "mate"] ["self", "node"] (defScope (inClass (topS 7) 12)) := ⟨rfl, rfl, rfl, by decide +kernel, rfl, by decide +kernel, by decide +kernel⟩
theorem T_numbering_ok {fa : Addr} {fd : FuncData} (F : Fun K "numbering" "Tree.numbering" (inClass (topS 7) 12) fa fd) (TC0 : TC K (C 0)) {a_T_linked : Addr} {d_T_linked : FuncData} (G_T_linked : FnOk Pr w K mg base CX0 1 a_T_linked d_T_linked ["self", "node"] (spF (T_linked_fs K C))) (b_T_linked : Binds K d_T_linked ["self", "node"] []) (h_T_linked : Meth K (C 0) "linked" a_T_linked) (z_sorted : mg "sorted" = none) : FnOk Pr w K mg base CX0 2 fa fd ["self", "node"] (spF (T_numbering_fs K C)) := by
  refine fs_ok (k := 1) F T_numbering_sc (ps := T_numbering_ps) (ls := T_numbering_ls) (m := T_numbering_m) rfl rfl fun cdv A outer s H vs E hl hr => ?_
  obtain ⟨v0, v1, rfl⟩ := len2 hl
  have hu : (A.deeper (PyProof.Rows.envOfC "Tree.numbering" (defScope (inClass (topS 7) 12)) s.heap.objs.size fa cdv)).units + 65 < cLine := by have := hr.un; omega
  refine ⟨T_numbering_G K C v0 v1, T_numbering_Gr K C v0 v1, T_numbering_G K C v0 v1, ⟨fun _ _ _ _ _ _ h => h, fun _ _ _ _ _ _ h => h, trivial⟩, ⟨fun _ _ _ _ _ _ _ _ => trivial, fun _ _ _ _ _ _ _ _ => trivial, trivial⟩, ?_⟩
  exact (.cons (Γ1 := T_numbering_G _ C v0 v1)
    (.asg (x := T_numbering_order) (.lst (.cons (.name (x := T_numbering_node) (pv 1) rfl rfl) .nil)) T_numbering_sc.nd rfl (.inr rfl))
  (.cons (Γ1 := T_numbering_G _ C v0 v1)
    (.asg (x := T_numbering_row) (.dat (.lst (.cons (.name (x := T_numbering_node) (pv 1) rfl rfl) .nil))) T_numbering_sc.nd rfl (.inl rfl))
  (.cons (Γ1 := T_numbering_G _ C v0 v1)
    (.while_ PassesOwn.never (.ofC (.ne (.name (x := T_numbering_row) (pv 3) rfl rfl) (.dat (.lst .nil)) hu)) (.cons (Γ1 := T_numbering_G _ C v0 v1)
    (.asg (x := T_numbering_below) (.lst .nil) T_numbering_sc.nd rfl (.inl rfl))
  (.cons (Γ1 := T_numbering_G _ C v0 v1)
    (.for_ (Γt := T_numbering_G _ C v0 v1) PassesOwn.never rfl (.list (.name (x := T_numbering_row) (pv 3) rfl rfl)) ⟨.inl rfl, ⟨.inl rfl, ⟨.inl rfl, ⟨.inl rfl, ⟨.inl rfl, ⟨.inl rfl, ⟨.inl rfl, trivial⟩⟩⟩⟩⟩⟩⟩ (.name (x := T_numbering_upper) rfl T_numbering_sc.nd rfl (.inl rfl)) (.one (.ext (x := T_numbering_below) (pv 4) .refl (.dat (.lc (own := [("mate", 6)]) rfl T_numbering_sc.nd (blkOk_by (N := T_numbering_N) (sc := defScope (inClass (topS 7) 12)) (by decide +kernel)) (Own.one T_numbering_mate) (.list (.dat (.meth (.v .nil) TC0.cl h_T_linked G_T_linked (hr.mono (by decide)) b_T_linked rfl (tree_ins (by decide +kernel) (by decide +kernel) (by decide +kernel)) (.name (x := T_numbering_self) (pv 0) rfl rfl) (.v rfl (.name (x := T_numbering_upper) (pv 5) rfl rfl) XA.nil) (om := trivial)))) (fixAt rfl) (fun _ _ _ => rfl) (fun _ _ _ _ _ => (.name (x := T_numbering_mate) rfl T_numbering_sc.nd rfl (.inl rfl))) (fun _ _ _ _ _ => (XTs.one (XT.borrow T_numbering_order (.ofC (.notin (.name (x := T_numbering_mate) (pv 6) rfl rfl) (.var (x := T_numbering_order) (pv 2) rfl rfl (fun _ _ _ h => h)) hu))))) (fun _ _ _ _ _ => (.name (x := T_numbering_mate) (pv 6) rfl rfl)))))))
  (.cons (Γ1 := T_numbering_G _ C v0 v1)
    (.asg (x := T_numbering_row) (.dat (.borrow T_numbering_below (.sortedI (by rfl) z_sorted (.var (x := T_numbering_below) (pv 4) rfl rfl (fun _ _ _ h => h))) (lin_of rfl))) T_numbering_sc.nd rfl (.inl rfl))
  (.one (.ext (x := T_numbering_order) (pv 2) .refl (.name (x := T_numbering_row) (pv 3) rfl rfl)))))) ⟨.inl rfl, ⟨.inl rfl, ⟨.inl rfl, ⟨.inl rfl, ⟨.inl rfl, ⟨.inl rfl, ⟨.inl rfl, trivial⟩⟩⟩⟩⟩⟩⟩)
  (.one (.retV (x := T_numbering_order) (pv 2) rfl ⟨.inr rfl, ⟨.inr rfl, ⟨.inr rfl, ⟨.inr rfl, ⟨.inr rfl, ⟨.inr rfl, ⟨.inr rfl, trivial⟩⟩⟩⟩⟩⟩⟩)))))
abbrev T_init_ps : List Type := [Option TreeD, List (Int × Int)]
abbrev T_init_ls : List Type := [(Int × Int), Int, Int]
abbrev T_init_T : List Type := [Option TreeD, List (Int × Int), (Int × Int), Int, Int]
abbrev T_init_self : Var T_init_T (Option TreeD) := .vz
abbrev T_init_roads : Var T_init_T (List (Int × Int)) := .vs .vz
abbrev T_init_road : Var T_init_T (Int × Int) := .vs (.vs .vz)
abbrev T_init_parent : Var T_init_T Int := .vs (.vs (.vs .vz))
abbrev T_init_length : Var T_init_T Int := .vs (.vs (.vs (.vs .vz)))
abbrev T_init_G (K : Fr) (C : Nat → Addr) (v0 v1 : V) : RTs K T_init_T := ((RT.at v0 (RT.tm K (C 0)), ((RT.dat K (List (Int × Int)), ((RT.dat K (Int × Int), ((RT.dat K Int, ((RT.dat K Int, ()) : RT K Int × RTs K [])) : RT K Int × RTs K [Int])) : RT K (Int × Int) × RTs K [Int, Int])) : RT K (List (Int × Int)) × RTs K [(Int × Int), Int, Int])) : RT K (Option TreeD) × RTs K [List (Int × Int), (Int × Int), Int, Int])
abbrev T_init_Gr (K : Fr) (C : Nat → Addr) (v0 v1 : V) : RTs K T_init_T := ((RT.at v0 (RT.tm K (C 0)), ((RT.dead K (List (Int × Int)), ((RT.dead K (Int × Int), ((RT.dead K Int, ((RT.dead K Int, ()) : RT K Int × RTs K [])) : RT K Int × RTs K [Int])) : RT K (Int × Int) × RTs K [Int, Int])) : RT K (List (Int × Int)) × RTs K [(Int × Int), Int, Int])) : RT K (Option TreeD) × RTs K [List (Int × Int), (Int × Int), Int, Int])
abbrev T_init_R (K : Fr) (C : Nat → Addr) : RT K Unit := RT.dat K Unit
noncomputable def T_init_m : MS T_init_T Unit := (sSeq (sIf (m1 bnot (m1 (isT true) (mV T_init_roads))) sFail sSkip)
  (sSeq (sT0 T_init_self 0 1 0) (sFor (mV T_init_roads) (fun y s => T_init_road.set (some y) s) (sSeq (sIf (m1 bnot (mCall (.v .nil) (bodyF (ps := is_pair_ps) (ls := is_pair_ls) is_pair_m) (aV (mV T_init_road) aNil))) sFail sSkip)
  (sSeq (sAsgG (fun z s => T_init_length.set (some z.2) (T_init_parent.set (some z.1) s)) (mV T_init_road))
  (sSeq (sIf (mOr (m1 bnot (chn ile ilt (mC (0 : Int)) (mV T_init_parent) (mLenP T_init_self))) (m2 ilt (mV T_init_length) (mC (1 : Int)))) sFail sSkip)
  (sTA T_init_self T_init_parent T_init_length)))))))
noncomputable abbrev T_init_fs (K : Fr) (C : Nat → Addr) : Fs K := { ps := T_init_ps, Γp := (((RT.tm K (C 0), ((RT.dat K (List (Int × Int)), ()) : RT K (List (Int × Int)) × RTs K [])) : RT K (Option TreeD) × RTs K [List (Int × Int)]) : RTs K T_init_ps), Γo := (((RT.tm K (C 0), ((RT.dead K (List (Int × Int)), ()) : RT K (List (Int × Int)) × RTs K [])) : RT K (Option TreeD) × RTs K [List (Int × Int)]) : RTs K T_init_ps), ρ := Unit, R := T_init_R K C, f := (bodyN (ps := T_init_ps) (ls := T_init_ls) T_init_m) }
theorem T_init_sc : FnScope ["self", "roads", "road", "parent", "length"] ["self", "roads"] (defScope (inClass (topS 7) 0)) := ⟨rfl, rfl, rfl, by decide +kernel, rfl, by decide +kernel, by decide +kernel⟩
theorem T_init_ok {fa : Addr} {fd : FuncData} (F : Fun K "__init__" "Tree.__init__" (inClass (topS 7) 0) fa fd) (TC0 : TC K (C 0)) {a_is_pair : Addr} {d_is_pair : FuncData} (G_is_pair : FnOk Pr w K mg base CX0 2 a_is_pair d_is_pair ["value"] (spF (is_pair_fs K C))) (b_is_pair : Binds K d_is_pair ["value"] []) (g_is_pair : mg "is_pair" = some (.ref a_is_pair)) (k_is_pair : PySem.W.keepIn K (.ref a_is_pair) = true) (z_isinstance : mg "isinstance" = none) (z_list : mg "list" = none) (z_len : mg "len" = none) : FnOk Pr w K mg base CX0 3 fa fd ["self", "roads"] (spF (T_init_fs K C)) := by
  refine fs_okN (k := 2) F T_init_sc (ps := T_init_ps) (ls := T_init_ls) (m := T_init_m) rfl rfl fun cdv A outer s H vs E hl hr => ?_
  obtain ⟨v0, v1, rfl⟩ := len2 hl
  have hu : (A.deeper (PyProof.Rows.envOfC "Tree.__init__" (defScope (inClass (topS 7) 0)) s.heap.objs.size fa cdv)).units + 65 < cLine := by have := hr.un; omega
  refine ⟨T_init_G K C v0 v1, T_init_Gr K C v0 v1, ⟨fun v G H x A e h => ⟨(Option.some.inj e).symm, h⟩, fun _ _ _ _ _ _ h => h, trivial⟩, ⟨fun v u G H x A e h => by cases (Option.some.inj e); cases h.1; exact h.2, fun _ _ _ _ _ _ _ _ => trivial, trivial⟩, ?_⟩
  exact XSs.to (Γ1 := T_init_G K C v0 v1) (.cons (Γ1 := T_init_G _ C v0 v1)
    (.ite (.not (.val (.isinst (T := "list") (t := "list") (T' := "list") (r := true) ty_lst (by decide +kernel) (by rfl) z_isinstance (by rfl) z_list (by decide +kernel) (.name (x := T_init_roads) (pv 1) rfl rfl)))) XSs.never XSs.nil)
  (.tree0 (x := T_init_self) TC0 (fun _ => pv 0) .at (.one (.for_ (Γt := T_init_G _ C v0 v1) PassesOwn.never rfl (.list (.name (x := T_init_roads) (pv 1) rfl rfl)) ⟨.inl rfl, ⟨.inl rfl, ⟨.inl rfl, ⟨.inl rfl, ⟨.inl rfl, trivial⟩⟩⟩⟩⟩ (.name (x := T_init_road) rfl T_init_sc.nd rfl (.inl rfl)) (.cons (Γ1 := T_init_G _ C v0 v1)
    (.ite (.not (.val (.call (.v .nil) G_is_pair (hr.mono (by decide)) (by rfl) g_is_pair k_is_pair b_is_pair (.v rfl (.name (x := T_init_road) (pv 2) rfl rfl) XA.nil) (om := trivial)))) XSs.never XSs.nil)
  (.cons (Γ1 := T_init_G _ C v0 v1)
    (.asgG rfl (.name (x := T_init_road) (pv 2) rfl rfl) (.pair (x := T_init_parent) (y := T_init_length) rfl T_init_sc.nd rfl (.inl rfl) rfl (.inl rfl) (by decide)))
  (.cons (Γ1 := T_init_G _ C v0 v1)
    (.ite (.ofW (.or (.not (.chn ci_le ci_lt .int (.name (x := T_init_parent) (pv 3) rfl rfl) (.lenP TC0 (pv 0) .at (by rfl) z_len))) (.or1 (.ofC (.lt (.name (x := T_init_length) (pv 4) rfl rfl) .int))))) XSs.never XSs.nil)
  (by refine XSs.treeAdd (x := T_init_self) (y := T_init_parent) (z := T_init_length) (C := C 0) ?_ ?_ ?_ ?_ ?_ ?_ ?_; exact TC0; exact fun _ => pv 0; exact fun _ => pv 3; exact fun _ => pv 4; exact .at; exact rfl; exact rfl)))))))) ⟨.inl rfl, ⟨.inr rfl, ⟨.inr rfl, ⟨.inr rfl, ⟨.inr rfl, trivial⟩⟩⟩⟩⟩
abbrev T_contains_ps : List Type := [TreeD, (Int × Int)]
abbrev T_contains_ls : List Type := [Int, Int]
abbrev T_contains_T : List Type := [TreeD, (Int × Int), Int, Int]
abbrev T_contains_self : Var T_contains_T TreeD := .vz
abbrev T_contains_point : Var T_contains_T (Int × Int) := .vs .vz
abbrev T_contains_node : Var T_contains_T Int := .vs (.vs .vz)
abbrev T_contains_up : Var T_contains_T Int := .vs (.vs (.vs .vz))
abbrev T_contains_G (K : Fr) (C : Nat → Addr) (v0 v1 : V) : RTs K T_contains_T := ((RT.tree K (C 0), ((RT.dat K (Int × Int), ((RT.dat K Int, ((RT.dat K Int, ()) : RT K Int × RTs K [])) : RT K Int × RTs K [Int])) : RT K (Int × Int) × RTs K [Int, Int])) : RT K TreeD × RTs K [(Int × Int), Int, Int])
abbrev T_contains_Gr (K : Fr) (C : Nat → Addr) (v0 v1 : V) : RTs K T_contains_T := ((RT.dead K TreeD, ((RT.dead K (Int × Int), ((RT.dead K Int, ((RT.dead K Int, ()) : RT K Int × RTs K [])) : RT K Int × RTs K [Int])) : RT K (Int × Int) × RTs K [Int, Int])) : RT K TreeD × RTs K [(Int × Int), Int, Int])
abbrev T_contains_R (K : Fr) (C : Nat → Addr) : RT K Bool := RT.dat K Bool
noncomputable def T_contains_m : MS T_contains_T Bool := (sSeq (sIf (m1 bnot (mCall (.v .nil) (bodyF (ps := is_pair_ps) (ls := is_pair_ls) is_pair_m) (aV (mV T_contains_point) aNil))) (sRet (mC false)) sSkip)
  (sSeq (sAsgG (fun z s => T_contains_up.set (some z.2) (T_contains_node.set (some z.1) s)) (mV T_contains_point))
  (sRet (mAnd (chn ile ilt (mC (0 : Int)) (mV T_contains_node) (m1 ilen (m1 fPs (mV T_contains_self)))) (chn ile ilt (mC (0 : Int)) (mV T_contains_up) (m2 idx (m1 fLs (mV T_contains_self)) (mV T_contains_node)))))))
noncomputable abbrev T_contains_fs (K : Fr) (C : Nat → Addr) : Fs K := { ps := T_contains_ps, Γp := (((RT.tree K (C 0), ((RT.dat K (Int × Int), ()) : RT K (Int × Int) × RTs K [])) : RT K TreeD × RTs K [(Int × Int)]) : RTs K T_contains_ps), Γo := (((RT.dead K TreeD, ((RT.dead K (Int × Int), ()) : RT K (Int × Int) × RTs K [])) : RT K TreeD × RTs K [(Int × Int)]) : RTs K T_contains_ps), ρ := Bool, R := T_contains_R K C, f := (bodyF (ps := T_contains_ps) (ls := T_contains_ls) T_contains_m) }
theorem T_contains_sc : FnScope ["self", "point", "node", "up"] ["self", "point"] (defScope (inClass (topS 7) 4)) := ⟨rfl, rfl, rfl, by decide +kernel, rfl, by decide +kernel, by decide +kernel⟩
theorem T_contains_ok {fa : Addr} {fd : FuncData} (F : Fun K "__contains__" "Tree.__contains__" (inClass (topS 7) 4) fa fd) (TC0 : TC K (C 0)) {a_is_pair : Addr} {d_is_pair : FuncData} (G_is_pair : FnOk Pr w K mg base CX0 2 a_is_pair d_is_pair ["value"] (spF (is_pair_fs K C))) (b_is_pair : Binds K d_is_pair ["value"] []) (g_is_pair : mg "is_pair" = some (.ref a_is_pair)) (k_is_pair : PySem.W.keepIn K (.ref a_is_pair) = true) (z_len : mg "len" = none) : FnOk Pr w K mg base CX0 3 fa fd ["self", "point"] (spF (T_contains_fs K C)) := by
  refine fs_ok (k := 2) F T_contains_sc (ps := T_contains_ps) (ls := T_contains_ls) (m := T_contains_m) rfl rfl fun cdv A outer s H vs E hl hr => ?_
  obtain ⟨v0, v1, rfl⟩ := len2 hl
  have hu : (A.deeper (PyProof.Rows.envOfC "Tree.__contains__" (defScope (inClass (topS 7) 4)) s.heap.objs.size fa cdv)).units + 65 < cLine := by have := hr.un; omega
  refine ⟨T_contains_G K C v0 v1, T_contains_Gr K C v0 v1, T_contains_G K C v0 v1, ⟨fun _ _ _ _ _ _ h => h, fun _ _ _ _ _ _ h => h, trivial⟩, ⟨fun _ _ _ _ _ _ _ _ => trivial, fun _ _ _ _ _ _ _ _ => trivial, trivial⟩, ?_⟩
  exact (.cons (Γ1 := T_contains_G _ C v0 v1)
    (.ite (.not (.val (.call (.v .nil) G_is_pair (hr.mono (by decide)) (by rfl) g_is_pair k_is_pair b_is_pair (.v rfl (.name (x := T_contains_point) (pv 1) rfl rfl) XA.nil) (om := trivial)))) (.one (.ret .bl ⟨.inr rfl, ⟨.inr rfl, ⟨.inr rfl, ⟨.inr rfl, trivial⟩⟩⟩⟩)) XSs.nil)
  (.cons (Γ1 := T_contains_G _ C v0 v1)
    (.asgG rfl (.name (x := T_contains_point) (pv 1) rfl rfl) (.pair (x := T_contains_node) (y := T_contains_up) rfl T_contains_sc.nd rfl (.inl rfl) rfl (.inl rfl) (by decide)))
  (.one (.ret (.and (.chn ci_le ci_lt .int (.name (x := T_contains_node) (pv 2) rfl rfl) (.len (by rfl) z_len (.fPs TC0 (.name (x := T_contains_self) (pv 0) rfl rfl)))) (.one (.chn ci_le ci_lt .int (.name (x := T_contains_up) (pv 3) rfl rfl) (.idx (.fLs TC0 (.name (x := T_contains_self) (pv 0) rfl rfl)) (.name (x := T_contains_node) (pv 2) rfl rfl))))) ⟨.inr rfl, ⟨.inr rfl, ⟨.inr rfl, ⟨.inr rfl, trivial⟩⟩⟩⟩))))
abbrev T_hung_point_ps : List Type := [TreeD, Int, (Int × Int)]
abbrev T_hung_point_ls : List Type := [List Int, Int, Int, Int, Int]
abbrev T_hung_point_T : List Type := [TreeD, Int, (Int × Int), List Int, Int, Int, Int, Int]
abbrev T_hung_point_self : Var T_hung_point_T TreeD := .vz
abbrev T_hung_point_node : Var T_hung_point_T Int := .vs .vz
abbrev T_hung_point_point : Var T_hung_point_T (Int × Int) := .vs (.vs .vz)
abbrev T_hung_point_order : Var T_hung_point_T (List Int) := .vs (.vs (.vs .vz))
abbrev T_hung_point_low : Var T_hung_point_T Int := .vs (.vs (.vs (.vs .vz)))
abbrev T_hung_point_up : Var T_hung_point_T Int := .vs (.vs (.vs (.vs (.vs .vz))))
abbrev T_hung_point_place : Var T_hung_point_T Int := .vs (.vs (.vs (.vs (.vs (.vs .vz)))))
abbrev T_hung_point_upper : Var T_hung_point_T Int := .vs (.vs (.vs (.vs (.vs (.vs (.vs .vz))))))
abbrev T_hung_point_G (K : Fr) (C : Nat → Addr) (v0 v1 v2 : V) : RTs K T_hung_point_T := ((RT.tree K (C 0), ((RT.dat K Int, ((RT.dat K (Int × Int), ((RT.dat K (List Int), ((RT.dat K Int, ((RT.dat K Int, ((RT.dat K Int, ((RT.dat K Int, ()) : RT K Int × RTs K [])) : RT K Int × RTs K [Int])) : RT K Int × RTs K [Int, Int])) : RT K Int × RTs K [Int, Int, Int])) : RT K (List Int) × RTs K [Int, Int, Int, Int])) : RT K (Int × Int) × RTs K [List Int, Int, Int, Int, Int])) : RT K Int × RTs K [(Int × Int), List Int, Int, Int, Int, Int])) : RT K TreeD × RTs K [Int, (Int × Int), List Int, Int, Int, Int, Int])
abbrev T_hung_point_Gr (K : Fr) (C : Nat → Addr) (v0 v1 v2 : V) : RTs K T_hung_point_T := ((RT.dead K TreeD, ((RT.dead K Int, ((RT.dead K (Int × Int), ((RT.dead K (List Int), ((RT.dead K Int, ((RT.dead K Int, ((RT.dead K Int, ((RT.dead K Int, ()) : RT K Int × RTs K [])) : RT K Int × RTs K [Int])) : RT K Int × RTs K [Int, Int])) : RT K Int × RTs K [Int, Int, Int])) : RT K (List Int) × RTs K [Int, Int, Int, Int])) : RT K (Int × Int) × RTs K [List Int, Int, Int, Int, Int])) : RT K Int × RTs K [(Int × Int), List Int, Int, Int, Int, Int])) : RT K TreeD × RTs K [Int, (Int × Int), List Int, Int, Int, Int, Int])
abbrev T_hung_point_R (K : Fr) (C : Nat → Addr) : RT K (Int × Int) := RT.dat K (Int × Int)
noncomputable def T_hung_point_m : MS T_hung_point_T (Int × Int) := (sSeq (sAsg T_hung_point_order (mCall (.v (.v .nil)) (bodyF (ps := T_numbering_ps) (ls := T_numbering_ls) T_numbering_m) (aV (mV T_hung_point_self) (aV (mV T_hung_point_node) aNil))))
  (sSeq (sAsgG (fun z s => T_hung_point_up.set (some z.2) (T_hung_point_low.set (some z.1) s)) (mV T_hung_point_point))
  (sSeq (sIf (m2 ieq (mV T_hung_point_up) (mC (0 : Int))) (sRet (m2 pair (m2 indexOf (mV T_hung_point_order) (mV T_hung_point_low)) (mC (0 : Int)))) sSkip)
  (sSeq (sPar T_hung_point_place T_hung_point_upper (m2 indexOf (mV T_hung_point_order) (mV T_hung_point_low)) (m2 indexOf (mV T_hung_point_order) (m2 idx (m1 fPs (mV T_hung_point_self)) (mV T_hung_point_low))))
  (sSeq (sIf (m2 ilt (mV T_hung_point_upper) (mV T_hung_point_place)) (sRet (m2 pair (mV T_hung_point_place) (mV T_hung_point_up))) sSkip)
  (sRet (m2 pair (mV T_hung_point_upper) (m2 isub (m2 idx (m1 fLs (mV T_hung_point_self)) (mV T_hung_point_low)) (mV T_hung_point_up)))))))))
noncomputable abbrev T_hung_point_fs (K : Fr) (C : Nat → Addr) : Fs K := { ps := T_hung_point_ps, Γp := (((RT.tree K (C 0), ((RT.dat K Int, ((RT.dat K (Int × Int), ()) : RT K (Int × Int) × RTs K [])) : RT K Int × RTs K [(Int × Int)])) : RT K TreeD × RTs K [Int, (Int × Int)]) : RTs K T_hung_point_ps), Γo := (((RT.dead K TreeD, ((RT.dead K Int, ((RT.dead K (Int × Int), ()) : RT K (Int × Int) × RTs K [])) : RT K Int × RTs K [(Int × Int)])) : RT K TreeD × RTs K [Int, (Int × Int)]) : RTs K T_hung_point_ps), ρ := (Int × Int), R := T_hung_point_R K C, f := (bodyF (ps := T_hung_point_ps) (ls := T_hung_point_ls) T_hung_point_m) }
theorem T_hung_point_sc : FnScope ["self", "node", "point", "order", "low", "up", "place", "upper"] ["self", "node", "point"] (defScope (inClass (topS 7) 14)) := ⟨rfl, rfl, rfl, by decide +kernel, rfl, by decide +kernel, by decide +kernel⟩
theorem T_hung_point_ok {fa : Addr} {fd : FuncData} (F : Fun K "hung_point" "Tree.hung_point" (inClass (topS 7) 14) fa fd) (TC0 : TC K (C 0)) {a_T_numbering : Addr} {d_T_numbering : FuncData} (G_T_numbering : FnOk Pr w K mg base CX0 2 a_T_numbering d_T_numbering ["self", "node"] (spF (T_numbering_fs K C))) (b_T_numbering : Binds K d_T_numbering ["self", "node"] []) (h_T_numbering : Meth K (C 0) "numbering" a_T_numbering) : FnOk Pr w K mg base CX0 3 fa fd ["self", "node", "point"] (spF (T_hung_point_fs K C)) := by
  refine fs_ok (k := 2) F T_hung_point_sc (ps := T_hung_point_ps) (ls := T_hung_point_ls) (m := T_hung_point_m) rfl rfl fun cdv A outer s H vs E hl hr => ?_
  obtain ⟨v0, v1, v2, rfl⟩ := len3 hl
  have hu : (A.deeper (PyProof.Rows.envOfC "Tree.hung_point" (defScope (inClass (topS 7) 14)) s.heap.objs.size fa cdv)).units + 65 < cLine := by have := hr.un; omega
  refine ⟨T_hung_point_G K C v0 v1 v2, T_hung_point_Gr K C v0 v1 v2, T_hung_point_G K C v0 v1 v2, ⟨fun _ _ _ _ _ _ h => h, fun _ _ _ _ _ _ h => h, fun _ _ _ _ _ _ h => h, trivial⟩, ⟨fun _ _ _ _ _ _ _ _ => trivial, fun _ _ _ _ _ _ _ _ => trivial, fun _ _ _ _ _ _ _ _ => trivial, trivial⟩, ?_⟩
  exact (.cons (Γ1 := T_hung_point_G _ C v0 v1 v2)
    (.asg (x := T_hung_point_order) (.dat (.meth (.v .nil) TC0.cl h_T_numbering G_T_numbering (hr.mono (by decide)) b_T_numbering rfl (tree_ins (by decide +kernel) (by decide +kernel) (by decide +kernel)) (.name (x := T_hung_point_self) (pv 0) rfl rfl) (.v rfl (.name (x := T_hung_point_node) (pv 1) rfl rfl) XA.nil) (om := trivial))) T_hung_point_sc.nd rfl (.inl rfl))
  (.cons (Γ1 := T_hung_point_G _ C v0 v1 v2)
    (.asgG rfl (.name (x := T_hung_point_point) (pv 2) rfl rfl) (.pair (x := T_hung_point_low) (y := T_hung_point_up) rfl T_hung_point_sc.nd rfl (.inl rfl) rfl (.inl rfl) (by decide)))
  (.cons (Γ1 := T_hung_point_G _ C v0 v1 v2)
    (.ite (.ofC (.eq (.name (x := T_hung_point_up) (pv 5) rfl rfl) .int hu)) (.one (.ret (.pair (.index (.name (x := T_hung_point_order) (pv 3) rfl rfl) (.name (x := T_hung_point_low) (pv 4) rfl rfl) hu) .int) ⟨.inr rfl, ⟨.inr rfl, ⟨.inr rfl, ⟨.inr rfl, ⟨.inr rfl, ⟨.inr rfl, ⟨.inr rfl, ⟨.inr rfl, trivial⟩⟩⟩⟩⟩⟩⟩⟩)) XSs.nil)
  (.cons (Γ1 := T_hung_point_G _ C v0 v1 v2)
    (.par (x := T_hung_point_place) (y := T_hung_point_upper) rfl T_hung_point_sc.nd rfl rfl (by decide) rfl rfl (.index (.name (x := T_hung_point_order) (pv 3) rfl rfl) (.name (x := T_hung_point_low) (pv 4) rfl rfl) hu) (.index (.name (x := T_hung_point_order) (pv 3) rfl rfl) (.idx (.fPs TC0 (.name (x := T_hung_point_self) (pv 0) rfl rfl)) (.name (x := T_hung_point_low) (pv 4) rfl rfl)) hu) rfl)
  (.cons (Γ1 := T_hung_point_G _ C v0 v1 v2)
    (.ite (.ofC (.lt (.name (x := T_hung_point_upper) (pv 7) rfl rfl) (.name (x := T_hung_point_place) (pv 6) rfl rfl))) (.one (.ret (.pair (.name (x := T_hung_point_place) (pv 6) rfl rfl) (.name (x := T_hung_point_up) (pv 5) rfl rfl)) ⟨.inr rfl, ⟨.inr rfl, ⟨.inr rfl, ⟨.inr rfl, ⟨.inr rfl, ⟨.inr rfl, ⟨.inr rfl, ⟨.inr rfl, trivial⟩⟩⟩⟩⟩⟩⟩⟩)) XSs.nil)
  (.one (.ret (.pair (.name (x := T_hung_point_upper) (pv 7) rfl rfl) (.sub (.idx (.fLs TC0 (.name (x := T_hung_point_self) (pv 0) rfl rfl)) (.name (x := T_hung_point_low) (pv 4) rfl rfl)) (.name (x := T_hung_point_up) (pv 5) rfl rfl))) ⟨.inr rfl, ⟨.inr rfl, ⟨.inr rfl, ⟨.inr rfl, ⟨.inr rfl, ⟨.inr rfl, ⟨.inr rfl, ⟨.inr rfl, trivial⟩⟩⟩⟩⟩⟩⟩⟩)))))))
abbrev T_height_ps : List Type := [TreeD, (Int × Int)]
abbrev T_height_ls : List Type := []
abbrev T_height_T : List Type := [TreeD, (Int × Int)]
abbrev T_height_self : Var T_height_T TreeD := .vz
abbrev T_height_point : Var T_height_T (Int × Int) := .vs .vz
abbrev T_height_G (K : Fr) (C : Nat → Addr) (v0 v1 : V) : RTs K T_height_T := ((RT.tree K (C 0), ((RT.dat K (Int × Int), ()) : RT K (Int × Int) × RTs K [])) : RT K TreeD × RTs K [(Int × Int)])
abbrev T_height_Gr (K : Fr) (C : Nat → Addr) (v0 v1 : V) : RTs K T_height_T := ((RT.dead K TreeD, ((RT.dead K (Int × Int), ()) : RT K (Int × Int) × RTs K [])) : RT K TreeD × RTs K [(Int × Int)])
abbrev T_height_R (K : Fr) (C : Nat → Addr) : RT K Int := RT.dat K Int
noncomputable def T_height_m : MS T_height_T Int := (sSeq (sIf (mIn true (bodyF (ps := T_contains_ps) (ls := T_contains_ls) T_contains_m) (mV T_height_point) (mV T_height_self)) sFail sSkip)
  (sRet (m2 isub (m2 idx (m1 fHs (mV T_height_self)) (m1 fst' (mV T_height_point))) (m1 snd' (mV T_height_point)))))
noncomputable abbrev T_height_fs (K : Fr) (C : Nat → Addr) : Fs K := { ps := T_height_ps, Γp := (((RT.tree K (C 0), ((RT.dat K (Int × Int), ()) : RT K (Int × Int) × RTs K [])) : RT K TreeD × RTs K [(Int × Int)]) : RTs K T_height_ps), Γo := (((RT.dead K TreeD, ((RT.dead K (Int × Int), ()) : RT K (Int × Int) × RTs K [])) : RT K TreeD × RTs K [(Int × Int)]) : RTs K T_height_ps), ρ := Int, R := T_height_R K C, f := (bodyF (ps := T_height_ps) (ls := T_height_ls) T_height_m) }
theorem T_height_sc : FnScope ["self", "point"] ["self", "point"] (defScope (inClass (topS 7) 5)) := ⟨rfl, rfl, rfl, by decide +kernel, rfl, by decide +kernel, by decide +kernel⟩
theorem T_height_ok {fa : Addr} {fd : FuncData} (F : Fun K "height" "Tree.height" (inClass (topS 7) 5) fa fd) (TC0 : TC K (C 0)) {a_T_contains : Addr} {d_T_contains : FuncData} (G_T_contains : FnOk Pr w K mg base CX0 3 a_T_contains d_T_contains ["self", "point"] (spF (T_contains_fs K C))) (b_T_contains : Binds K d_T_contains ["self", "point"] []) (h_T_contains : Meth K (C 0) "__contains__" a_T_contains) : FnOk Pr w K mg base CX0 4 fa fd ["self", "point"] (spF (T_height_fs K C)) := by
  refine fs_ok (k := 3) F T_height_sc (ps := T_height_ps) (ls := T_height_ls) (m := T_height_m) rfl rfl fun cdv A outer s H vs E hl hr => ?_
  obtain ⟨v0, v1, rfl⟩ := len2 hl
  have hu : (A.deeper (PyProof.Rows.envOfC "Tree.height" (defScope (inClass (topS 7) 5)) s.heap.objs.size fa cdv)).units + 65 < cLine := by have := hr.un; omega
  refine ⟨T_height_G K C v0 v1, T_height_Gr K C v0 v1, T_height_G K C v0 v1, ⟨fun _ _ _ _ _ _ h => h, fun _ _ _ _ _ _ h => h, trivial⟩, ⟨fun _ _ _ _ _ _ _ _ => trivial, fun _ _ _ _ _ _ _ _ => trivial, trivial⟩, ?_⟩
  exact (.cons (Γ1 := T_height_G _ C v0 v1)
    (.ite (.ofC (.notInO G_T_contains (hr.mono (by decide)) b_T_contains h_T_contains.at_ h_T_contains.fn rfl rfl (tree_ins (by decide +kernel) (by decide +kernel) (by decide +kernel)) (.name (x := T_height_point) (pv 1) rfl rfl) (.name (x := T_height_self) (pv 0) rfl rfl))) XSs.never XSs.nil)
  (.one (.ret (.sub (.idx (.fHs TC0 (.name (x := T_height_self) (pv 0) rfl rfl)) (.fst (.name (x := T_height_point) (pv 1) rfl rfl))) (.snd (.name (x := T_height_point) (pv 1) rfl rfl))) ⟨.inr rfl, ⟨.inr rfl, trivial⟩⟩)))
abbrev T_junction_ps : List Type := [TreeD, (Int × Int), (Int × Int)]
abbrev T_junction_ls : List Type := [Int, Int, Int]
abbrev T_junction_T : List Type := [TreeD, (Int × Int), (Int × Int), Int, Int, Int]
abbrev T_junction_self : Var T_junction_T TreeD := .vz
abbrev T_junction_one : Var T_junction_T (Int × Int) := .vs .vz
abbrev T_junction_other : Var T_junction_T (Int × Int) := .vs (.vs .vz)
abbrev T_junction_least : Var T_junction_T Int := .vs (.vs (.vs .vz))
abbrev T_junction_node : Var T_junction_T Int := .vs (.vs (.vs (.vs .vz)))
abbrev T_junction_mate : Var T_junction_T Int := .vs (.vs (.vs (.vs (.vs .vz))))
abbrev T_junction_G (K : Fr) (C : Nat → Addr) (v0 v1 v2 : V) : RTs K T_junction_T := ((RT.tree K (C 0), ((RT.dat K (Int × Int), ((RT.dat K (Int × Int), ((RT.dat K Int, ((RT.dat K Int, ((RT.dat K Int, ()) : RT K Int × RTs K [])) : RT K Int × RTs K [Int])) : RT K Int × RTs K [Int, Int])) : RT K (Int × Int) × RTs K [Int, Int, Int])) : RT K (Int × Int) × RTs K [(Int × Int), Int, Int, Int])) : RT K TreeD × RTs K [(Int × Int), (Int × Int), Int, Int, Int])
abbrev T_junction_Gr (K : Fr) (C : Nat → Addr) (v0 v1 v2 : V) : RTs K T_junction_T := ((RT.dead K TreeD, ((RT.dead K (Int × Int), ((RT.dead K (Int × Int), ((RT.dead K Int, ((RT.dead K Int, ((RT.dead K Int, ()) : RT K Int × RTs K [])) : RT K Int × RTs K [Int])) : RT K Int × RTs K [Int, Int])) : RT K (Int × Int) × RTs K [Int, Int, Int])) : RT K (Int × Int) × RTs K [(Int × Int), Int, Int, Int])) : RT K TreeD × RTs K [(Int × Int), (Int × Int), Int, Int, Int])
abbrev T_junction_R (K : Fr) (C : Nat → Addr) : RT K Int := RT.dat K Int
noncomputable def T_junction_m : MS T_junction_T Int := (sSeq (sAsg T_junction_least (m2 imin (mCall (.v (.v .nil)) (bodyF (ps := T_height_ps) (ls := T_height_ls) T_height_m) (aV (mV T_junction_self) (aV (mV T_junction_one) aNil))) (mCall (.v (.v .nil)) (bodyF (ps := T_height_ps) (ls := T_height_ls) T_height_m) (aV (mV T_junction_self) (aV (mV T_junction_other) aNil)))))
  (sSeq (sPar T_junction_node T_junction_mate (m1 fst' (mV T_junction_one)) (m1 fst' (mV T_junction_other)))
  (sSeq (sWhile (m2 ine (mV T_junction_node) (mV T_junction_mate)) (sIf (m2 igt (mV T_junction_node) (mV T_junction_mate)) (sAsg T_junction_node (m2 idx (m1 fPs (mV T_junction_self)) (mV T_junction_node))) (sAsg T_junction_mate (m2 idx (m1 fPs (mV T_junction_self)) (mV T_junction_mate)))))
  (sRet (m2 imin (mV T_junction_least) (m2 idx (m1 fHs (mV T_junction_self)) (mV T_junction_node)))))))
noncomputable abbrev T_junction_fs (K : Fr) (C : Nat → Addr) : Fs K := { ps := T_junction_ps, Γp := (((RT.tree K (C 0), ((RT.dat K (Int × Int), ((RT.dat K (Int × Int), ()) : RT K (Int × Int) × RTs K [])) : RT K (Int × Int) × RTs K [(Int × Int)])) : RT K TreeD × RTs K [(Int × Int), (Int × Int)]) : RTs K T_junction_ps), Γo := (((RT.dead K TreeD, ((RT.dead K (Int × Int), ((RT.dead K (Int × Int), ()) : RT K (Int × Int) × RTs K [])) : RT K (Int × Int) × RTs K [(Int × Int)])) : RT K TreeD × RTs K [(Int × Int), (Int × Int)]) : RTs K T_junction_ps), ρ := Int, R := T_junction_R K C, f := (bodyF (ps := T_junction_ps) (ls := T_junction_ls) T_junction_m) }
theorem T_junction_sc : FnScope ["self", "one", "other", "least", "node", "mate"] ["self", "one", "other"] (defScope (inClass (topS 7) 6)) := ⟨rfl, rfl, rfl, by decide +kernel, rfl, by decide +kernel, by decide +kernel⟩
theorem T_junction_ok {fa : Addr} {fd : FuncData} (F : Fun K "junction" "Tree.junction" (inClass (topS 7) 6) fa fd) (TC0 : TC K (C 0)) {a_T_height : Addr} {d_T_height : FuncData} (G_T_height : FnOk Pr w K mg base CX0 4 a_T_height d_T_height ["self", "point"] (spF (T_height_fs K C))) (b_T_height : Binds K d_T_height ["self", "point"] []) (h_T_height : Meth K (C 0) "height" a_T_height) (z_min : mg "min" = none) : FnOk Pr w K mg base CX0 5 fa fd ["self", "one", "other"] (spF (T_junction_fs K C)) := by
  refine fs_ok (k := 4) F T_junction_sc (ps := T_junction_ps) (ls := T_junction_ls) (m := T_junction_m) rfl rfl fun cdv A outer s H vs E hl hr => ?_
  obtain ⟨v0, v1, v2, rfl⟩ := len3 hl
  have hu : (A.deeper (PyProof.Rows.envOfC "Tree.junction" (defScope (inClass (topS 7) 6)) s.heap.objs.size fa cdv)).units + 65 < cLine := by have := hr.un; omega
  refine ⟨T_junction_G K C v0 v1 v2, T_junction_Gr K C v0 v1 v2, T_junction_G K C v0 v1 v2, ⟨fun _ _ _ _ _ _ h => h, fun _ _ _ _ _ _ h => h, fun _ _ _ _ _ _ h => h, trivial⟩, ⟨fun _ _ _ _ _ _ _ _ => trivial, fun _ _ _ _ _ _ _ _ => trivial, fun _ _ _ _ _ _ _ _ => trivial, trivial⟩, ?_⟩
  exact (.cons (Γ1 := T_junction_G _ C v0 v1 v2)
    (.asg (x := T_junction_least) (.min2 rfl (by rfl) z_min (.meth (.v .nil) TC0.cl h_T_height G_T_height (hr.mono (by decide)) b_T_height rfl (tree_ins (by decide +kernel) (by decide +kernel) (by decide +kernel)) (.name (x := T_junction_self) (pv 0) rfl rfl) (.v rfl (.name (x := T_junction_one) (pv 1) rfl rfl) XA.nil) (om := trivial)) (.meth (.v .nil) TC0.cl h_T_height G_T_height (hr.mono (by decide)) b_T_height rfl (tree_ins (by decide +kernel) (by decide +kernel) (by decide +kernel)) (.name (x := T_junction_self) (pv 0) rfl rfl) (.v rfl (.name (x := T_junction_other) (pv 2) rfl rfl) XA.nil) (om := trivial))) T_junction_sc.nd rfl (.inl rfl))
  (.cons (Γ1 := T_junction_G _ C v0 v1 v2)
    (.par (x := T_junction_node) (y := T_junction_mate) rfl T_junction_sc.nd rfl rfl (by decide) rfl rfl (.fst (.name (x := T_junction_one) (pv 1) rfl rfl)) (.fst (.name (x := T_junction_other) (pv 2) rfl rfl)) rfl)
  (.cons (Γ1 := T_junction_G _ C v0 v1 v2)
    (.while_ PassesOwn.never (.ofC (.ne (.name (x := T_junction_node) (pv 4) rfl rfl) (.name (x := T_junction_mate) (pv 5) rfl rfl) hu)) (.one (.ite (.ofC (.gt (.name (x := T_junction_node) (pv 4) rfl rfl) (.name (x := T_junction_mate) (pv 5) rfl rfl))) (.one (.asg (x := T_junction_node) (.idx (.fPs TC0 (.name (x := T_junction_self) (pv 0) rfl rfl)) (.name (x := T_junction_node) (pv 4) rfl rfl)) T_junction_sc.nd rfl (.inl rfl))) (.one (.asg (x := T_junction_mate) (.idx (.fPs TC0 (.name (x := T_junction_self) (pv 0) rfl rfl)) (.name (x := T_junction_mate) (pv 5) rfl rfl)) T_junction_sc.nd rfl (.inl rfl))))) ⟨.inl rfl, ⟨.inl rfl, ⟨.inl rfl, ⟨.inl rfl, ⟨.inl rfl, ⟨.inl rfl, trivial⟩⟩⟩⟩⟩⟩)
  (.one (.ret (.min2 rfl (by rfl) z_min (.name (x := T_junction_least) (pv 3) rfl rfl) (.idx (.fHs TC0 (.name (x := T_junction_self) (pv 0) rfl rfl)) (.name (x := T_junction_node) (pv 4) rfl rfl))) ⟨.inr rfl, ⟨.inr rfl, ⟨.inr rfl, ⟨.inr rfl, ⟨.inr rfl, ⟨.inr rfl, trivial⟩⟩⟩⟩⟩⟩)))))
abbrev T_hung_N : List Str := ["self", "node", "order", "roads", "place", "parents", "upper", "lower", "child", "k"]
abbrev T_hung_ps : List Type := [TreeD, Int]
abbrev T_hung_ls : List Type := [List Int, List (Int × Int), Int, List Int, Int, Int, Int, Int]
abbrev T_hung_T : List Type := [TreeD, Int, List Int, List (Int × Int), Int, List Int, Int, Int, Int, Int]
abbrev T_hung_self : Var T_hung_T TreeD := .vz
abbrev T_hung_node : Var T_hung_T Int := .vs .vz
abbrev T_hung_order : Var T_hung_T (List Int) := .vs (.vs .vz)
abbrev T_hung_roads : Var T_hung_T (List (Int × Int)) := .vs (.vs (.vs .vz))
abbrev T_hung_place : Var T_hung_T Int := .vs (.vs (.vs (.vs .vz)))
abbrev T_hung_parents : Var T_hung_T (List Int) := .vs (.vs (.vs (.vs (.vs .vz))))
abbrev T_hung_upper : Var T_hung_T Int := .vs (.vs (.vs (.vs (.vs (.vs .vz)))))
abbrev T_hung_lower : Var T_hung_T Int := .vs (.vs (.vs (.vs (.vs (.vs (.vs .vz))))))
abbrev T_hung_child : Var T_hung_T Int := .vs (.vs (.vs (.vs (.vs (.vs (.vs (.vs .vz)))))))
abbrev T_hung_k : Var T_hung_T Int := .vs (.vs (.vs (.vs (.vs (.vs (.vs (.vs (.vs .vz))))))))
abbrev T_hung_G (K : Fr) (C : Nat → Addr) (v0 v1 : V) : RTs K T_hung_T := ((RT.tree K (C 0), ((RT.dat K Int, ((RT.dat K (List Int), ((RT.own K (Int × Int), ((RT.dat K Int, ((RT.dat K (List Int), ((RT.dat K Int, ((RT.dat K Int, ((RT.dat K Int, ((RT.dat K Int, ()) : RT K Int × RTs K [])) : RT K Int × RTs K [Int])) : RT K Int × RTs K [Int, Int])) : RT K Int × RTs K [Int, Int, Int])) : RT K (List Int) × RTs K [Int, Int, Int, Int])) : RT K Int × RTs K [List Int, Int, Int, Int, Int])) : RT K (List (Int × Int)) × RTs K [Int, List Int, Int, Int, Int, Int])) : RT K (List Int) × RTs K [List (Int × Int), Int, List Int, Int, Int, Int, Int])) : RT K Int × RTs K [List Int, List (Int × Int), Int, List Int, Int, Int, Int, Int])) : RT K TreeD × RTs K [Int, List Int, List (Int × Int), Int, List Int, Int, Int, Int, Int])
abbrev T_hung_Gr (K : Fr) (C : Nat → Addr) (v0 v1 : V) : RTs K T_hung_T := ((RT.dead K TreeD, ((RT.dead K Int, ((RT.dead K (List Int), ((RT.dead K (List (Int × Int)), ((RT.dead K Int, ((RT.dead K (List Int), ((RT.dead K Int, ((RT.dead K Int, ((RT.dead K Int, ((RT.dead K Int, ()) : RT K Int × RTs K [])) : RT K Int × RTs K [Int])) : RT K Int × RTs K [Int, Int])) : RT K Int × RTs K [Int, Int, Int])) : RT K (List Int) × RTs K [Int, Int, Int, Int])) : RT K Int × RTs K [List Int, Int, Int, Int, Int])) : RT K (List (Int × Int)) × RTs K [Int, List Int, Int, Int, Int, Int])) : RT K (List Int) × RTs K [List (Int × Int), Int, List Int, Int, Int, Int, Int])) : RT K Int × RTs K [List Int, List (Int × Int), Int, List Int, Int, Int, Int, Int])) : RT K TreeD × RTs K [Int, List Int, List (Int × Int), Int, List Int, Int, Int, Int, Int])
abbrev T_hung_R (K : Fr) (C : Nat → Addr) : RT K TreeD := RT.tree K (C 0)
noncomputable def T_hung_m : MS T_hung_T TreeD := (sSeq (sAsg T_hung_order (mCall (.v (.v .nil)) (bodyF (ps := T_numbering_ps) (ls := T_numbering_ls) T_numbering_m) (aV (mV T_hung_self) (aV (mV T_hung_node) aNil))))
  (sSeq (sAsg T_hung_roads (m1 lstO (mC ([] : List (Int × Int)))))
  (sSeq (sFor (m2 rng2 (mC (1 : Int)) (m1 ilen (mV T_hung_order))) (fun y s => T_hung_place.set (some y) s) (sSeq (sAsg T_hung_parents (mLc (m1 rng (mV T_hung_place)) (fun y s => T_hung_k.set (some y) s) (Own.one T_hung_k).rs (m2 isin (m2 idx (mV T_hung_order) (mV T_hung_k)) (mCall (.v (.v .nil)) (bodyF (ps := T_linked_ps) (ls := T_linked_ls) T_linked_m) (aV (mV T_hung_self) (aV (m2 idx (mV T_hung_order) (mV T_hung_place)) aNil)))) (mV T_hung_k)))
  (sSeq (sAsg T_hung_upper (m2 idx (mV T_hung_order) (m2 idx (mV T_hung_parents) (mC (0 : Int)))))
  (sSeq (sAsg T_hung_lower (m2 idx (mV T_hung_order) (mV T_hung_place)))
  (sSeq (sAsg T_hung_child (mIte (mAnd (m2 igt (mV T_hung_lower) (mC (0 : Int))) (m2 ieq (m2 idx (m1 fPs (mV T_hung_self)) (mV T_hung_lower)) (mV T_hung_upper))) (mV T_hung_lower) (mV T_hung_upper)))
  (sApp T_hung_roads (m2 pair (m2 idx (mV T_hung_parents) (mC (0 : Int))) (m2 idx (m1 fLs (mV T_hung_self)) (mV T_hung_child)))))))))
  (sRet (m1 idO (mMake none (bodyN (ps := T_init_ps) (ls := T_init_ls) T_init_m) (aV (mV T_hung_roads) aNil)))))))
noncomputable abbrev T_hung_fs (K : Fr) (C : Nat → Addr) : Fs K := { ps := T_hung_ps, Γp := (((RT.tree K (C 0), ((RT.dat K Int, ()) : RT K Int × RTs K [])) : RT K TreeD × RTs K [Int]) : RTs K T_hung_ps), Γo := (((RT.dead K TreeD, ((RT.dead K Int, ()) : RT K Int × RTs K [])) : RT K TreeD × RTs K [Int]) : RTs K T_hung_ps), ρ := TreeD, R := T_hung_R K C, f := (bodyF (ps := T_hung_ps) (ls := T_hung_ls) T_hung_m) }
theorem T_hung_sc : FnScope ["self", "node", "order", "roads", "place", "parents", "upper", "lower", "child", "k"] ["self", "node"] (defScope (inClass (topS 7) 13)) := ⟨rfl, rfl, rfl, by decide +kernel, rfl, by decide +kernel, by decide +kernel⟩
theorem T_hung_ok {fa : Addr} {fd : FuncData} (F : Fun K "hung" "Tree.hung" (inClass (topS 7) 13) fa fd) (TC0 : TC K (C 0)) {a_T_init : Addr} {d_T_init : FuncData} (G_T_init : FnOk Pr w K mg base CX0 3 a_T_init d_T_init ["self", "roads"] (spF (T_init_fs K C))) (b_T_init : Binds K d_T_init ["self", "roads"] []) (h_T_init : Mk K (C 0) a_T_init) (g_T_init : mg "Tree" = some (.ref (C 0))) {a_T_numbering : Addr} {d_T_numbering : FuncData} (G_T_numbering : FnOk Pr w K mg base CX0 2 a_T_numbering d_T_numbering ["self", "node"] (spF (T_numbering_fs K C))) (b_T_numbering : Binds K d_T_numbering ["self", "node"] []) (h_T_numbering : Meth K (C 0) "numbering" a_T_numbering) {a_T_linked : Addr} {d_T_linked : FuncData} (G_T_linked : FnOk Pr w K mg base CX0 1 a_T_linked d_T_linked ["self", "node"] (spF (T_linked_fs K C))) (b_T_linked : Binds K d_T_linked ["self", "node"] []) (h_T_linked : Meth K (C 0) "linked" a_T_linked) (z_range : mg "range" = none) (z_len : mg "len" = none) : FnOk Pr w K mg base CX0 5 fa fd ["self", "node"] (spF (T_hung_fs K C)) := by
  refine fs_ok (k := 4) F T_hung_sc (ps := T_hung_ps) (ls := T_hung_ls) (m := T_hung_m) rfl rfl fun cdv A outer s H vs E hl hr => ?_
  obtain ⟨v0, v1, rfl⟩ := len2 hl
  have hu : (A.deeper (PyProof.Rows.envOfC "Tree.hung" (defScope (inClass (topS 7) 13)) s.heap.objs.size fa cdv)).units + 65 < cLine := by have := hr.un; omega
  refine ⟨T_hung_G K C v0 v1, T_hung_Gr K C v0 v1, T_hung_G K C v0 v1, ⟨fun _ _ _ _ _ _ h => h, fun _ _ _ _ _ _ h => h, trivial⟩, ⟨fun _ _ _ _ _ _ _ _ => trivial, fun _ _ _ _ _ _ _ _ => trivial, trivial⟩, ?_⟩
  exact (.cons (Γ1 := T_hung_G _ C v0 v1)
    (.asg (x := T_hung_order) (.dat (.meth (.v .nil) TC0.cl h_T_numbering G_T_numbering (hr.mono (by decide)) b_T_numbering rfl (tree_ins (by decide +kernel) (by decide +kernel) (by decide +kernel)) (.name (x := T_hung_self) (pv 0) rfl rfl) (.v rfl (.name (x := T_hung_node) (pv 1) rfl rfl) XA.nil) (om := trivial))) T_hung_sc.nd rfl (.inr rfl))
  (.cons (Γ1 := T_hung_G _ C v0 v1)
    (.asg (x := T_hung_roads) (.lst .nil) T_hung_sc.nd rfl (.inl rfl))
  (.cons (Γ1 := T_hung_G _ C v0 v1)
    (.for_ (Γt := T_hung_G _ C v0 v1) PassesOwn.never rfl (.range2 (by rfl) z_range .int (.len (by rfl) z_len (.name (x := T_hung_order) (pv 2) rfl rfl))) ⟨.inl rfl, ⟨.inl rfl, ⟨.inl rfl, ⟨.inl rfl, ⟨.inl rfl, ⟨.inl rfl, ⟨.inl rfl, ⟨.inl rfl, ⟨.inl rfl, ⟨.inl rfl, trivial⟩⟩⟩⟩⟩⟩⟩⟩⟩⟩ (.name (x := T_hung_place) rfl T_hung_sc.nd rfl (.inr rfl)) (.cons (Γ1 := T_hung_G _ C v0 v1)
    (.asgLcG (z := T_hung_parents) (Γb := (T_hung_G _ C v0 v1)) (own := [("k", 9)]) rfl T_hung_sc.nd (blkOk_by (N := T_hung_N) (sc := defScope (inClass (topS 7) 13)) (by decide +kernel)) (Own.one T_hung_k) rfl rfl (sw_true rfl rfl rfl (by decide +kernel)) (.range1 (by rfl) z_range (.name (x := T_hung_place) (pv 4) rfl rfl)) (fixAt rfl) (fun _ _ _ => rfl) (fun _ _ _ _ _ => (.name (x := T_hung_k) rfl T_hung_sc.nd rfl (.inl rfl))) (fun _ _ _ _ _ => (XTs.one (.ofC (.isin (.idx (.name (x := T_hung_order) (pv 2) rfl rfl) (.name (x := T_hung_k) (pv 9) rfl rfl)) (.dat (.meth (.v .nil) TC0.cl h_T_linked G_T_linked (hr.mono (by decide)) b_T_linked rfl (tree_ins (by decide +kernel) (by decide +kernel) (by decide +kernel)) (.name (x := T_hung_self) (pv 0) rfl rfl) (.v rfl (.idx (.name (x := T_hung_order) (pv 2) rfl rfl) (.name (x := T_hung_place) (pv 4) rfl rfl)) XA.nil) (om := trivial))) hu)))) (fun _ _ _ _ _ => (.name (x := T_hung_k) (pv 9) rfl rfl)) (tr := fun t h => (XV.dat h)))
  (.cons (Γ1 := T_hung_G _ C v0 v1)
    (.asg (x := T_hung_upper) (.idx (.name (x := T_hung_order) (pv 2) rfl rfl) (.idx (.name (x := T_hung_parents) (pv 5) rfl rfl) .int)) T_hung_sc.nd rfl (.inl rfl))
  (.cons (Γ1 := T_hung_G _ C v0 v1)
    (.asg (x := T_hung_lower) (.idx (.name (x := T_hung_order) (pv 2) rfl rfl) (.name (x := T_hung_place) (pv 4) rfl rfl)) T_hung_sc.nd rfl (.inl rfl))
  (.cons (Γ1 := T_hung_G _ C v0 v1)
    (.asg (x := T_hung_child) (.ite (.ofW (.and (.ofC (.gt (.name (x := T_hung_lower) (pv 7) rfl rfl) .int)) (.and1 (.ofC (.eq (.idx (.fPs TC0 (.name (x := T_hung_self) (pv 0) rfl rfl)) (.name (x := T_hung_lower) (pv 7) rfl rfl)) (.name (x := T_hung_upper) (pv 6) rfl rfl) hu))))) (.name (x := T_hung_lower) (pv 7) rfl rfl) (.name (x := T_hung_upper) (pv 6) rfl rfl)) T_hung_sc.nd rfl (.inl rfl))
  (.one (.app (x := T_hung_roads) (pv 3) .refl (.pair (.idx (.name (x := T_hung_parents) (pv 5) rfl rfl) .int) (.idx (.fLs TC0 (.name (x := T_hung_self) (pv 0) rfl rfl)) (.name (x := T_hung_child) (pv 8) rfl rfl))))))))))
  (.one (.ret (.tree (.borrow T_hung_roads (.make tm_new h_T_init G_T_init (hr.mono (by decide)) (by rfl) g_T_init b_T_init (.v rfl (.var (x := T_hung_roads) (pv 3) rfl rfl (fun _ _ _ h => h)) XA.nil)) (lin_of rfl))) ⟨.inr rfl, ⟨.inr rfl, ⟨.inr rfl, ⟨.inr rfl, ⟨.inr rfl, ⟨.inr rfl, ⟨.inr rfl, ⟨.inr rfl, ⟨.inr rfl, ⟨.inr rfl, trivial⟩⟩⟩⟩⟩⟩⟩⟩⟩⟩)))))
abbrev T_distance_ps : List Type := [TreeD, (Int × Int), (Int × Int)]
abbrev T_distance_ls : List Type := []
abbrev T_distance_T : List Type := [TreeD, (Int × Int), (Int × Int)]
abbrev T_distance_self : Var T_distance_T TreeD := .vz
abbrev T_distance_one : Var T_distance_T (Int × Int) := .vs .vz
abbrev T_distance_other : Var T_distance_T (Int × Int) := .vs (.vs .vz)
abbrev T_distance_G (K : Fr) (C : Nat → Addr) (v0 v1 v2 : V) : RTs K T_distance_T := ((RT.tree K (C 0), ((RT.dat K (Int × Int), ((RT.dat K (Int × Int), ()) : RT K (Int × Int) × RTs K [])) : RT K (Int × Int) × RTs K [(Int × Int)])) : RT K TreeD × RTs K [(Int × Int), (Int × Int)])
abbrev T_distance_Gr (K : Fr) (C : Nat → Addr) (v0 v1 v2 : V) : RTs K T_distance_T := ((RT.dead K TreeD, ((RT.dead K (Int × Int), ((RT.dead K (Int × Int), ()) : RT K (Int × Int) × RTs K [])) : RT K (Int × Int) × RTs K [(Int × Int)])) : RT K TreeD × RTs K [(Int × Int), (Int × Int)])
abbrev T_distance_R (K : Fr) (C : Nat → Addr) : RT K Int := RT.dat K Int
noncomputable def T_distance_m : MS T_distance_T Int := (sRet (m2 isub (m2 iadd (mCall (.v (.v .nil)) (bodyF (ps := T_height_ps) (ls := T_height_ls) T_height_m) (aV (mV T_distance_self) (aV (mV T_distance_one) aNil))) (mCall (.v (.v .nil)) (bodyF (ps := T_height_ps) (ls := T_height_ls) T_height_m) (aV (mV T_distance_self) (aV (mV T_distance_other) aNil)))) (m2 imul (mC (2 : Int)) (mCall (.v (.v (.v .nil))) (bodyF (ps := T_junction_ps) (ls := T_junction_ls) T_junction_m) (aV (mV T_distance_self) (aV (mV T_distance_one) (aV (mV T_distance_other) aNil)))))))
noncomputable abbrev T_distance_fs (K : Fr) (C : Nat → Addr) : Fs K := { ps := T_distance_ps, Γp := (((RT.tree K (C 0), ((RT.dat K (Int × Int), ((RT.dat K (Int × Int), ()) : RT K (Int × Int) × RTs K [])) : RT K (Int × Int) × RTs K [(Int × Int)])) : RT K TreeD × RTs K [(Int × Int), (Int × Int)]) : RTs K T_distance_ps), Γo := (((RT.dead K TreeD, ((RT.dead K (Int × Int), ((RT.dead K (Int × Int), ()) : RT K (Int × Int) × RTs K [])) : RT K (Int × Int) × RTs K [(Int × Int)])) : RT K TreeD × RTs K [(Int × Int), (Int × Int)]) : RTs K T_distance_ps), ρ := Int, R := T_distance_R K C, f := (bodyF (ps := T_distance_ps) (ls := T_distance_ls) T_distance_m) }
theorem T_distance_sc : FnScope ["self", "one", "other"] ["self", "one", "other"] (defScope (inClass (topS 7) 7)) := ⟨rfl, rfl, rfl, by decide +kernel, rfl, by decide +kernel, by decide +kernel⟩
theorem T_distance_ok {fa : Addr} {fd : FuncData} (F : Fun K "distance" "Tree.distance" (inClass (topS 7) 7) fa fd) (TC0 : TC K (C 0)) {a_T_height : Addr} {d_T_height : FuncData} (G_T_height : FnOk Pr w K mg base CX0 4 a_T_height d_T_height ["self", "point"] (spF (T_height_fs K C))) (b_T_height : Binds K d_T_height ["self", "point"] []) (h_T_height : Meth K (C 0) "height" a_T_height) {a_T_junction : Addr} {d_T_junction : FuncData} (G_T_junction : FnOk Pr w K mg base CX0 5 a_T_junction d_T_junction ["self", "one", "other"] (spF (T_junction_fs K C))) (b_T_junction : Binds K d_T_junction ["self", "one", "other"] []) (h_T_junction : Meth K (C 0) "junction" a_T_junction) : FnOk Pr w K mg base CX0 6 fa fd ["self", "one", "other"] (spF (T_distance_fs K C)) := by
  refine fs_ok (k := 5) F T_distance_sc (ps := T_distance_ps) (ls := T_distance_ls) (m := T_distance_m) rfl rfl fun cdv A outer s H vs E hl hr => ?_
  obtain ⟨v0, v1, v2, rfl⟩ := len3 hl
  have hu : (A.deeper (PyProof.Rows.envOfC "Tree.distance" (defScope (inClass (topS 7) 7)) s.heap.objs.size fa cdv)).units + 65 < cLine := by have := hr.un; omega
  refine ⟨T_distance_G K C v0 v1 v2, T_distance_Gr K C v0 v1 v2, T_distance_G K C v0 v1 v2, ⟨fun _ _ _ _ _ _ h => h, fun _ _ _ _ _ _ h => h, fun _ _ _ _ _ _ h => h, trivial⟩, ⟨fun _ _ _ _ _ _ _ _ => trivial, fun _ _ _ _ _ _ _ _ => trivial, fun _ _ _ _ _ _ _ _ => trivial, trivial⟩, ?_⟩
  exact (.one (.ret (.sub (.add (.meth (.v .nil) TC0.cl h_T_height G_T_height (hr.mono (by decide)) b_T_height rfl (tree_ins (by decide +kernel) (by decide +kernel) (by decide +kernel)) (.name (x := T_distance_self) (pv 0) rfl rfl) (.v rfl (.name (x := T_distance_one) (pv 1) rfl rfl) XA.nil) (om := trivial)) (.meth (.v .nil) TC0.cl h_T_height G_T_height (hr.mono (by decide)) b_T_height rfl (tree_ins (by decide +kernel) (by decide +kernel) (by decide +kernel)) (.name (x := T_distance_self) (pv 0) rfl rfl) (.v rfl (.name (x := T_distance_other) (pv 2) rfl rfl) XA.nil) (om := trivial))) (.mul .int (.meth (.v (.v .nil)) TC0.cl h_T_junction G_T_junction (hr.mono (by decide)) b_T_junction rfl (tree_ins (by decide +kernel) (by decide +kernel) (by decide +kernel)) (.name (x := T_distance_self) (pv 0) rfl rfl) (.v rfl (.name (x := T_distance_one) (pv 1) rfl rfl) (.v rfl (.name (x := T_distance_other) (pv 2) rfl rfl) XA.nil)) (om := trivial)))) ⟨.inr rfl, ⟨.inr rfl, ⟨.inr rfl, trivial⟩⟩⟩))
abbrev T_on_way_ps : List Type := [TreeD, (Int × Int), (Int × Int), (Int × Int)]
abbrev T_on_way_ls : List Type := []
abbrev T_on_way_T : List Type := [TreeD, (Int × Int), (Int × Int), (Int × Int)]
abbrev T_on_way_self : Var T_on_way_T TreeD := .vz
abbrev T_on_way_point : Var T_on_way_T (Int × Int) := .vs .vz
abbrev T_on_way_one : Var T_on_way_T (Int × Int) := .vs (.vs .vz)
abbrev T_on_way_other : Var T_on_way_T (Int × Int) := .vs (.vs (.vs .vz))
abbrev T_on_way_G (K : Fr) (C : Nat → Addr) (v0 v1 v2 v3 : V) : RTs K T_on_way_T := ((RT.tree K (C 0), ((RT.dat K (Int × Int), ((RT.dat K (Int × Int), ((RT.dat K (Int × Int), ()) : RT K (Int × Int) × RTs K [])) : RT K (Int × Int) × RTs K [(Int × Int)])) : RT K (Int × Int) × RTs K [(Int × Int), (Int × Int)])) : RT K TreeD × RTs K [(Int × Int), (Int × Int), (Int × Int)])
abbrev T_on_way_Gr (K : Fr) (C : Nat → Addr) (v0 v1 v2 v3 : V) : RTs K T_on_way_T := ((RT.dead K TreeD, ((RT.dead K (Int × Int), ((RT.dead K (Int × Int), ((RT.dead K (Int × Int), ()) : RT K (Int × Int) × RTs K [])) : RT K (Int × Int) × RTs K [(Int × Int)])) : RT K (Int × Int) × RTs K [(Int × Int), (Int × Int)])) : RT K TreeD × RTs K [(Int × Int), (Int × Int), (Int × Int)])
abbrev T_on_way_R (K : Fr) (C : Nat → Addr) : RT K Bool := RT.dat K Bool
noncomputable def T_on_way_m : MS T_on_way_T Bool := (sRet (m2 ieq (m2 iadd (mCall (.v (.v (.v .nil))) (bodyF (ps := T_distance_ps) (ls := T_distance_ls) T_distance_m) (aV (mV T_on_way_self) (aV (mV T_on_way_one) (aV (mV T_on_way_point) aNil)))) (mCall (.v (.v (.v .nil))) (bodyF (ps := T_distance_ps) (ls := T_distance_ls) T_distance_m) (aV (mV T_on_way_self) (aV (mV T_on_way_point) (aV (mV T_on_way_other) aNil))))) (mCall (.v (.v (.v .nil))) (bodyF (ps := T_distance_ps) (ls := T_distance_ls) T_distance_m) (aV (mV T_on_way_self) (aV (mV T_on_way_one) (aV (mV T_on_way_other) aNil))))))
noncomputable abbrev T_on_way_fs (K : Fr) (C : Nat → Addr) : Fs K := { ps := T_on_way_ps, Γp := (((RT.tree K (C 0), ((RT.dat K (Int × Int), ((RT.dat K (Int × Int), ((RT.dat K (Int × Int), ()) : RT K (Int × Int) × RTs K [])) : RT K (Int × Int) × RTs K [(Int × Int)])) : RT K (Int × Int) × RTs K [(Int × Int), (Int × Int)])) : RT K TreeD × RTs K [(Int × Int), (Int × Int), (Int × Int)]) : RTs K T_on_way_ps), Γo := (((RT.dead K TreeD, ((RT.dead K (Int × Int), ((RT.dead K (Int × Int), ((RT.dead K (Int × Int), ()) : RT K (Int × Int) × RTs K [])) : RT K (Int × Int) × RTs K [(Int × Int)])) : RT K (Int × Int) × RTs K [(Int × Int), (Int × Int)])) : RT K TreeD × RTs K [(Int × Int), (Int × Int), (Int × Int)]) : RTs K T_on_way_ps), ρ := Bool, R := T_on_way_R K C, f := (bodyF (ps := T_on_way_ps) (ls := T_on_way_ls) T_on_way_m) }
theorem T_on_way_sc : FnScope ["self", "point", "one", "other"] ["self", "point", "one", "other"] (defScope (inClass (topS 7) 8)) := ⟨rfl, rfl, rfl, by decide +kernel, rfl, by decide +kernel, by decide +kernel⟩
theorem T_on_way_ok {fa : Addr} {fd : FuncData} (F : Fun K "on_way" "Tree.on_way" (inClass (topS 7) 8) fa fd) (TC0 : TC K (C 0)) {a_T_distance : Addr} {d_T_distance : FuncData} (G_T_distance : FnOk Pr w K mg base CX0 6 a_T_distance d_T_distance ["self", "one", "other"] (spF (T_distance_fs K C))) (b_T_distance : Binds K d_T_distance ["self", "one", "other"] []) (h_T_distance : Meth K (C 0) "distance" a_T_distance) : FnOk Pr w K mg base CX0 7 fa fd ["self", "point", "one", "other"] (spF (T_on_way_fs K C)) := by
  refine fs_ok (k := 6) F T_on_way_sc (ps := T_on_way_ps) (ls := T_on_way_ls) (m := T_on_way_m) rfl rfl fun cdv A outer s H vs E hl hr => ?_
  obtain ⟨v0, v1, v2, v3, rfl⟩ := len4 hl
  have hu : (A.deeper (PyProof.Rows.envOfC "Tree.on_way" (defScope (inClass (topS 7) 8)) s.heap.objs.size fa cdv)).units + 65 < cLine := by have := hr.un; omega
  refine ⟨T_on_way_G K C v0 v1 v2 v3, T_on_way_Gr K C v0 v1 v2 v3, T_on_way_G K C v0 v1 v2 v3, ⟨fun _ _ _ _ _ _ h => h, fun _ _ _ _ _ _ h => h, fun _ _ _ _ _ _ h => h, fun _ _ _ _ _ _ h => h, trivial⟩, ⟨fun _ _ _ _ _ _ _ _ => trivial, fun _ _ _ _ _ _ _ _ => trivial, fun _ _ _ _ _ _ _ _ => trivial, fun _ _ _ _ _ _ _ _ => trivial, trivial⟩, ?_⟩
  exact (.one (.ret (.ofC (.eq (.add (.meth (.v (.v .nil)) TC0.cl h_T_distance G_T_distance (hr.mono (by decide)) b_T_distance rfl (tree_ins (by decide +kernel) (by decide +kernel) (by decide +kernel)) (.name (x := T_on_way_self) (pv 0) rfl rfl) (.v rfl (.name (x := T_on_way_one) (pv 2) rfl rfl) (.v rfl (.name (x := T_on_way_point) (pv 1) rfl rfl) XA.nil)) (om := trivial)) (.meth (.v (.v .nil)) TC0.cl h_T_distance G_T_distance (hr.mono (by decide)) b_T_distance rfl (tree_ins (by decide +kernel) (by decide +kernel) (by decide +kernel)) (.name (x := T_on_way_self) (pv 0) rfl rfl) (.v rfl (.name (x := T_on_way_point) (pv 1) rfl rfl) (.v rfl (.name (x := T_on_way_other) (pv 3) rfl rfl) XA.nil)) (om := trivial))) (.meth (.v (.v .nil)) TC0.cl h_T_distance G_T_distance (hr.mono (by decide)) b_T_distance rfl (tree_ins (by decide +kernel) (by decide +kernel) (by decide +kernel)) (.name (x := T_on_way_self) (pv 0) rfl rfl) (.v rfl (.name (x := T_on_way_one) (pv 2) rfl rfl) (.v rfl (.name (x := T_on_way_other) (pv 3) rfl rfl) XA.nil)) (om := trivial)) hu)) ⟨.inr rfl, ⟨.inr rfl, ⟨.inr rfl, ⟨.inr rfl, trivial⟩⟩⟩⟩))
abbrev T_towards_ps : List Type := [TreeD, (Int × Int), (Int × Int), Int]
abbrev T_towards_ls : List Type := [Int]
abbrev T_towards_T : List Type := [TreeD, (Int × Int), (Int × Int), Int, Int]
abbrev T_towards_self : Var T_towards_T TreeD := .vz
abbrev T_towards_one : Var T_towards_T (Int × Int) := .vs .vz
abbrev T_towards_other : Var T_towards_T (Int × Int) := .vs (.vs .vz)
abbrev T_towards_far : Var T_towards_T Int := .vs (.vs (.vs .vz))
abbrev T_towards_whole : Var T_towards_T Int := .vs (.vs (.vs (.vs .vz)))
abbrev T_towards_G (K : Fr) (C : Nat → Addr) (v0 v1 v2 v3 : V) : RTs K T_towards_T := ((RT.tree K (C 0), ((RT.dat K (Int × Int), ((RT.dat K (Int × Int), ((RT.dat K Int, ((RT.dat K Int, ()) : RT K Int × RTs K [])) : RT K Int × RTs K [Int])) : RT K (Int × Int) × RTs K [Int, Int])) : RT K (Int × Int) × RTs K [(Int × Int), Int, Int])) : RT K TreeD × RTs K [(Int × Int), (Int × Int), Int, Int])
abbrev T_towards_Gr (K : Fr) (C : Nat → Addr) (v0 v1 v2 v3 : V) : RTs K T_towards_T := ((RT.dead K TreeD, ((RT.dead K (Int × Int), ((RT.dead K (Int × Int), ((RT.dead K Int, ((RT.dead K Int, ()) : RT K Int × RTs K [])) : RT K Int × RTs K [Int])) : RT K (Int × Int) × RTs K [Int, Int])) : RT K (Int × Int) × RTs K [(Int × Int), Int, Int])) : RT K TreeD × RTs K [(Int × Int), (Int × Int), Int, Int])
abbrev T_towards_R (K : Fr) (C : Nat → Addr) : RT K (Int × Int) := RT.dat K (Int × Int)
noncomputable def T_towards_m : MS T_towards_T (Int × Int) := (sSeq (sAsg T_towards_whole (mCall (.v (.v (.v .nil))) (bodyF (ps := T_distance_ps) (ls := T_distance_ls) T_distance_m) (aV (mV T_towards_self) (aV (mV T_towards_one) (aV (mV T_towards_other) aNil)))))
  (sSeq (sIf (mOr (m1 bnot (mCall (.v .nil) (bodyF (ps := is_integer_ps) (ls := is_integer_ls) is_integer_m) (aV (mV T_towards_far) aNil))) (m1 bnot (chn ile ile (mC (0 : Int)) (mV T_towards_far) (mV T_towards_whole)))) sFail sSkip)
  (sSeq (sIf (m2 ile (mV T_towards_far) (m2 isub (mCall (.v (.v .nil)) (bodyF (ps := T_height_ps) (ls := T_height_ls) T_height_m) (aV (mV T_towards_self) (aV (mV T_towards_one) aNil))) (mCall (.v (.v (.v .nil))) (bodyF (ps := T_junction_ps) (ls := T_junction_ls) T_junction_m) (aV (mV T_towards_self) (aV (mV T_towards_one) (aV (mV T_towards_other) aNil)))))) (sRet (mCall (.v (.v (.v .nil))) (bodyF (ps := T_raised_ps) (ls := T_raised_ls) T_raised_m) (aV (mV T_towards_self) (aV (mV T_towards_one) (aV (mV T_towards_far) aNil))))) sSkip)
  (sRet (mCall (.v (.v (.v .nil))) (bodyF (ps := T_raised_ps) (ls := T_raised_ls) T_raised_m) (aV (mV T_towards_self) (aV (mV T_towards_other) (aV (m2 isub (mV T_towards_whole) (mV T_towards_far)) aNil))))))))
noncomputable abbrev T_towards_fs (K : Fr) (C : Nat → Addr) : Fs K := { ps := T_towards_ps, Γp := (((RT.tree K (C 0), ((RT.dat K (Int × Int), ((RT.dat K (Int × Int), ((RT.dat K Int, ()) : RT K Int × RTs K [])) : RT K (Int × Int) × RTs K [Int])) : RT K (Int × Int) × RTs K [(Int × Int), Int])) : RT K TreeD × RTs K [(Int × Int), (Int × Int), Int]) : RTs K T_towards_ps), Γo := (((RT.dead K TreeD, ((RT.dead K (Int × Int), ((RT.dead K (Int × Int), ((RT.dead K Int, ()) : RT K Int × RTs K [])) : RT K (Int × Int) × RTs K [Int])) : RT K (Int × Int) × RTs K [(Int × Int), Int])) : RT K TreeD × RTs K [(Int × Int), (Int × Int), Int]) : RTs K T_towards_ps), ρ := (Int × Int), R := T_towards_R K C, f := (bodyF (ps := T_towards_ps) (ls := T_towards_ls) T_towards_m) }
theorem T_towards_sc : FnScope ["self", "one", "other", "far", "whole"] ["self", "one", "other", "far"] (defScope (inClass (topS 7) 10)) := ⟨rfl, rfl, rfl, by decide +kernel, rfl, by decide +kernel, by decide +kernel⟩
theorem T_towards_ok {fa : Addr} {fd : FuncData} (F : Fun K "towards" "Tree.towards" (inClass (topS 7) 10) fa fd) (TC0 : TC K (C 0)) {a_T_distance : Addr} {d_T_distance : FuncData} (G_T_distance : FnOk Pr w K mg base CX0 6 a_T_distance d_T_distance ["self", "one", "other"] (spF (T_distance_fs K C))) (b_T_distance : Binds K d_T_distance ["self", "one", "other"] []) (h_T_distance : Meth K (C 0) "distance" a_T_distance) {a_T_raised : Addr} {d_T_raised : FuncData} (G_T_raised : FnOk Pr w K mg base CX0 1 a_T_raised d_T_raised ["self", "point", "far"] (spF (T_raised_fs K C))) (b_T_raised : Binds K d_T_raised ["self", "point", "far"] []) (h_T_raised : Meth K (C 0) "raised" a_T_raised) {a_is_integer : Addr} {d_is_integer : FuncData} (G_is_integer : FnOk Pr w K mg base CX0 1 a_is_integer d_is_integer ["value"] (spF (is_integer_fs K C))) (b_is_integer : Binds K d_is_integer ["value"] []) (g_is_integer : mg "is_integer" = some (.ref a_is_integer)) (k_is_integer : PySem.W.keepIn K (.ref a_is_integer) = true) {a_T_height : Addr} {d_T_height : FuncData} (G_T_height : FnOk Pr w K mg base CX0 4 a_T_height d_T_height ["self", "point"] (spF (T_height_fs K C))) (b_T_height : Binds K d_T_height ["self", "point"] []) (h_T_height : Meth K (C 0) "height" a_T_height) {a_T_junction : Addr} {d_T_junction : FuncData} (G_T_junction : FnOk Pr w K mg base CX0 5 a_T_junction d_T_junction ["self", "one", "other"] (spF (T_junction_fs K C))) (b_T_junction : Binds K d_T_junction ["self", "one", "other"] []) (h_T_junction : Meth K (C 0) "junction" a_T_junction) : FnOk Pr w K mg base CX0 7 fa fd ["self", "one", "other", "far"] (spF (T_towards_fs K C)) := by
  refine fs_ok (k := 6) F T_towards_sc (ps := T_towards_ps) (ls := T_towards_ls) (m := T_towards_m) rfl rfl fun cdv A outer s H vs E hl hr => ?_
  obtain ⟨v0, v1, v2, v3, rfl⟩ := len4 hl
  have hu : (A.deeper (PyProof.Rows.envOfC "Tree.towards" (defScope (inClass (topS 7) 10)) s.heap.objs.size fa cdv)).units + 65 < cLine := by have := hr.un; omega
  refine ⟨T_towards_G K C v0 v1 v2 v3, T_towards_Gr K C v0 v1 v2 v3, T_towards_G K C v0 v1 v2 v3, ⟨fun _ _ _ _ _ _ h => h, fun _ _ _ _ _ _ h => h, fun _ _ _ _ _ _ h => h, fun _ _ _ _ _ _ h => h, trivial⟩, ⟨fun _ _ _ _ _ _ _ _ => trivial, fun _ _ _ _ _ _ _ _ => trivial, fun _ _ _ _ _ _ _ _ => trivial, fun _ _ _ _ _ _ _ _ => trivial, trivial⟩, ?_⟩
  exact (.cons (Γ1 := T_towards_G _ C v0 v1 v2 v3)
    (.asg (x := T_towards_whole) (.meth (.v (.v .nil)) TC0.cl h_T_distance G_T_distance (hr.mono (by decide)) b_T_distance rfl (tree_ins (by decide +kernel) (by decide +kernel) (by decide +kernel)) (.name (x := T_towards_self) (pv 0) rfl rfl) (.v rfl (.name (x := T_towards_one) (pv 1) rfl rfl) (.v rfl (.name (x := T_towards_other) (pv 2) rfl rfl) XA.nil)) (om := trivial)) T_towards_sc.nd rfl (.inl rfl))
  (.cons (Γ1 := T_towards_G _ C v0 v1 v2 v3)
    (.ite (.ofW (.or (.not (.val (.call (.v .nil) G_is_integer (hr.mono (by decide)) (by rfl) g_is_integer k_is_integer b_is_integer (.v rfl (.name (x := T_towards_far) (pv 3) rfl rfl) XA.nil) (om := trivial)))) (.or1 (.not (.chn ci_le ci_le .int (.name (x := T_towards_far) (pv 3) rfl rfl) (.name (x := T_towards_whole) (pv 4) rfl rfl)))))) XSs.never XSs.nil)
  (.cons (Γ1 := T_towards_G _ C v0 v1 v2 v3)
    (.ite (.ofC (.le (.name (x := T_towards_far) (pv 3) rfl rfl) (.sub (.meth (.v .nil) TC0.cl h_T_height G_T_height (hr.mono (by decide)) b_T_height rfl (tree_ins (by decide +kernel) (by decide +kernel) (by decide +kernel)) (.name (x := T_towards_self) (pv 0) rfl rfl) (.v rfl (.name (x := T_towards_one) (pv 1) rfl rfl) XA.nil) (om := trivial)) (.meth (.v (.v .nil)) TC0.cl h_T_junction G_T_junction (hr.mono (by decide)) b_T_junction rfl (tree_ins (by decide +kernel) (by decide +kernel) (by decide +kernel)) (.name (x := T_towards_self) (pv 0) rfl rfl) (.v rfl (.name (x := T_towards_one) (pv 1) rfl rfl) (.v rfl (.name (x := T_towards_other) (pv 2) rfl rfl) XA.nil)) (om := trivial))))) (.one (.ret (.meth (.v (.v .nil)) TC0.cl h_T_raised G_T_raised (hr.mono (by decide)) b_T_raised rfl (tree_ins (by decide +kernel) (by decide +kernel) (by decide +kernel)) (.name (x := T_towards_self) (pv 0) rfl rfl) (.v rfl (.name (x := T_towards_one) (pv 1) rfl rfl) (.v rfl (.name (x := T_towards_far) (pv 3) rfl rfl) XA.nil)) (om := trivial)) ⟨.inr rfl, ⟨.inr rfl, ⟨.inr rfl, ⟨.inr rfl, ⟨.inr rfl, trivial⟩⟩⟩⟩⟩)) XSs.nil)
  (.one (.ret (.meth (.v (.v .nil)) TC0.cl h_T_raised G_T_raised (hr.mono (by decide)) b_T_raised rfl (tree_ins (by decide +kernel) (by decide +kernel) (by decide +kernel)) (.name (x := T_towards_self) (pv 0) rfl rfl) (.v rfl (.name (x := T_towards_other) (pv 2) rfl rfl) (.v rfl (.sub (.name (x := T_towards_whole) (pv 4) rfl rfl) (.name (x := T_towards_far) (pv 3) rfl rfl)) XA.nil)) (om := trivial)) ⟨.inr rfl, ⟨.inr rfl, ⟨.inr rfl, ⟨.inr rfl, ⟨.inr rfl, trivial⟩⟩⟩⟩⟩)))))
abbrev l_same_ps : List Type := [TreeD, List (Int × Int), List (List (List (Int × Int)))]
abbrev l_same_ls : List Type := [Int, Int, PyData, Int, Int, Int]
abbrev l_same_T : List Type := [TreeD, List (Int × Int), List (List (List (Int × Int))), Int, Int, PyData, Int, Int, Int]
abbrev l_same_tree : Var l_same_T TreeD := .vz
abbrev l_same_moved : Var l_same_T (List (Int × Int)) := .vs .vz
abbrev l_same_ways : Var l_same_T (List (List (List (Int × Int)))) := .vs (.vs .vz)
abbrev l_same_one : Var l_same_T Int := .vs (.vs (.vs .vz))
abbrev l_same_other : Var l_same_T Int := .vs (.vs (.vs (.vs .vz)))
abbrev l_same_due : Var l_same_T PyData := .vs (.vs (.vs (.vs (.vs .vz))))
abbrev l_same_found : Var l_same_T Int := .vs (.vs (.vs (.vs (.vs (.vs .vz)))))
abbrev l_same_third : Var l_same_T Int := .vs (.vs (.vs (.vs (.vs (.vs (.vs .vz))))))
abbrev l_same_around : Var l_same_T Int := .vs (.vs (.vs (.vs (.vs (.vs (.vs (.vs .vz)))))))
abbrev l_same_G (K : Fr) (C : Nat → Addr) (v0 v1 v2 : V) : RTs K l_same_T := ((RT.tree K (C 0), ((RT.dat K (List (Int × Int)), ((RT.dat K (List (List (List (Int × Int)))), ((RT.dat K Int, ((RT.dat K Int, ((RT.dat K PyData, ((RT.dat K Int, ((RT.dat K Int, ((RT.dat K Int, ()) : RT K Int × RTs K [])) : RT K Int × RTs K [Int])) : RT K Int × RTs K [Int, Int])) : RT K PyData × RTs K [Int, Int, Int])) : RT K Int × RTs K [PyData, Int, Int, Int])) : RT K Int × RTs K [Int, PyData, Int, Int, Int])) : RT K (List (List (List (Int × Int)))) × RTs K [Int, Int, PyData, Int, Int, Int])) : RT K (List (Int × Int)) × RTs K [List (List (List (Int × Int))), Int, Int, PyData, Int, Int, Int])) : RT K TreeD × RTs K [List (Int × Int), List (List (List (Int × Int))), Int, Int, PyData, Int, Int, Int])
abbrev l_same_Gr (K : Fr) (C : Nat → Addr) (v0 v1 v2 : V) : RTs K l_same_T := ((RT.dead K TreeD, ((RT.dead K (List (Int × Int)), ((RT.dead K (List (List (List (Int × Int)))), ((RT.dead K Int, ((RT.dead K Int, ((RT.dead K PyData, ((RT.dead K Int, ((RT.dead K Int, ((RT.dead K Int, ()) : RT K Int × RTs K [])) : RT K Int × RTs K [Int])) : RT K Int × RTs K [Int, Int])) : RT K PyData × RTs K [Int, Int, Int])) : RT K Int × RTs K [PyData, Int, Int, Int])) : RT K Int × RTs K [Int, PyData, Int, Int, Int])) : RT K (List (List (List (Int × Int)))) × RTs K [Int, Int, PyData, Int, Int, Int])) : RT K (List (Int × Int)) × RTs K [List (List (List (Int × Int))), Int, Int, PyData, Int, Int, Int])) : RT K TreeD × RTs K [List (Int × Int), List (List (List (Int × Int))), Int, Int, PyData, Int, Int, Int])
abbrev l_same_R (K : Fr) (C : Nat → Addr) : RT K Bool := RT.dat K Bool
noncomputable def l_same_m : MS l_same_T Bool := (sSeq (sFor (m1 rng (mC (6 : Int))) (fun y s => l_same_one.set (some y) s) (sFor (m1 rng (mC (6 : Int))) (fun y s => l_same_other.set (some y) s) (sSeq (sAsg l_same_due (m1 toRaw (m2 isub (m1 ilen (m2 idx (m2 idx (mV l_same_ways) (mV l_same_one)) (mV l_same_other))) (mC (1 : Int)))))
  (sSeq (sAsg l_same_found (mCall (.v (.v (.v .nil))) (bodyF (ps := T_distance_ps) (ls := T_distance_ls) T_distance_m) (aV (mV l_same_tree) (aV (m2 idx (mV l_same_moved) (mV l_same_one)) (aV (m2 idx (mV l_same_moved) (mV l_same_other)) aNil)))))
  (sIf (mOr (m1 bnot (mCall (.v .nil) (bodyF (ps := l_whole_ps) (ls := l_whole_ls) l_whole_m) (aV (mV l_same_found) aNil))) (mOr (m2 ine (mV l_same_found) (m1 ofRawN (mV l_same_due))) (m2 ine (m2 ieq (m2 idx (mV l_same_moved) (mV l_same_one)) (m2 idx (mV l_same_moved) (mV l_same_other))) (m2 ieq (m1 ofRawN (mV l_same_due)) (mC (0 : Int)))))) (sRet (mC false)) sSkip)))))
  (sSeq (sFor (m1 rng (mC (6 : Int))) (fun y s => l_same_one.set (some y) s) (sFor (m1 rng (mV l_same_one)) (fun y s => l_same_other.set (some y) s) (sSeq (sAsg l_same_third (m2 imod (m1 idt (m2 iadd (m2 iadd (mV l_same_one) (m2 imul (mC (2 : Int)) (mV l_same_other))) (mC (1 : Int)))) (mC (6 : Int))))
  (sSeq (sAsg l_same_around (m2 iadd (m1 ilen (m2 idx (m2 idx (mV l_same_ways) (mV l_same_one)) (mV l_same_third))) (m1 ilen (m2 idx (m2 idx (mV l_same_ways) (mV l_same_third)) (mV l_same_other)))))
  (sSeq (sAsg l_same_due (m1 toRaw (m2 ieq (mV l_same_around) (m2 iadd (m1 ilen (m2 idx (m2 idx (mV l_same_ways) (mV l_same_one)) (mV l_same_other))) (mC (1 : Int))))))
  (sIf (m2 ine (mCall (.v (.v (.v (.v .nil)))) (bodyF (ps := T_on_way_ps) (ls := T_on_way_ls) T_on_way_m) (aV (mV l_same_tree) (aV (m2 idx (mV l_same_moved) (mV l_same_third)) (aV (m2 idx (mV l_same_moved) (mV l_same_one)) (aV (m2 idx (mV l_same_moved) (mV l_same_other)) aNil))))) (m1 ofRawB (mV l_same_due))) (sRet (mC false)) sSkip))))))
  (sRet (mC true))))
noncomputable abbrev l_same_fs (K : Fr) (C : Nat → Addr) : Fs K := { ps := l_same_ps, Γp := (((RT.tree K (C 0), ((RT.dat K (List (Int × Int)), ((RT.dat K (List (List (List (Int × Int)))), ()) : RT K (List (List (List (Int × Int)))) × RTs K [])) : RT K (List (Int × Int)) × RTs K [List (List (List (Int × Int)))])) : RT K TreeD × RTs K [List (Int × Int), List (List (List (Int × Int)))]) : RTs K l_same_ps), Γo := (((RT.dead K TreeD, ((RT.dead K (List (Int × Int)), ((RT.dead K (List (List (List (Int × Int)))), ()) : RT K (List (List (List (Int × Int)))) × RTs K [])) : RT K (List (Int × Int)) × RTs K [List (List (List (Int × Int)))])) : RT K TreeD × RTs K [List (Int × Int), List (List (List (Int × Int)))]) : RTs K l_same_ps), ρ := Bool, R := l_same_R K C, f := (bodyF (ps := l_same_ps) (ls := l_same_ls) l_same_m) }
theorem l_same_sc : FnScope ["tree", "moved", "ways", "one", "other", "due", "found", "third", "around"] ["tree", "moved", "ways"] (defScope (topS 16)) := ⟨rfl, rfl, rfl, by decide +kernel, rfl, by decide +kernel, by decide +kernel⟩
theorem l_same_ok {fa : Addr} {fd : FuncData} (F : Fun K "_law_same" "_law_same" (topS 16) fa fd) (TC0 : TC K (C 0)) {a_T_distance : Addr} {d_T_distance : FuncData} (G_T_distance : FnOk Pr w K mg base CX0 6 a_T_distance d_T_distance ["self", "one", "other"] (spF (T_distance_fs K C))) (b_T_distance : Binds K d_T_distance ["self", "one", "other"] []) (h_T_distance : Meth K (C 0) "distance" a_T_distance) {a_l_whole : Addr} {d_l_whole : FuncData} (G_l_whole : FnOk Pr w K mg base CX0 1 a_l_whole d_l_whole ["found"] (spF (l_whole_fs K C))) (b_l_whole : Binds K d_l_whole ["found"] []) (g_l_whole : mg "_law_whole" = some (.ref a_l_whole)) (k_l_whole : PySem.W.keepIn K (.ref a_l_whole) = true) {a_T_on_way : Addr} {d_T_on_way : FuncData} (G_T_on_way : FnOk Pr w K mg base CX0 7 a_T_on_way d_T_on_way ["self", "point", "one", "other"] (spF (T_on_way_fs K C))) (b_T_on_way : Binds K d_T_on_way ["self", "point", "one", "other"] []) (h_T_on_way : Meth K (C 0) "on_way" a_T_on_way) (z_range : mg "range" = none) (z_len : mg "len" = none) (z_int : mg "int" = none) : FnOk Pr w K mg base CX0 8 fa fd ["tree", "moved", "ways"] (spF (l_same_fs K C)) := by
  refine fs_ok (k := 7) F l_same_sc (ps := l_same_ps) (ls := l_same_ls) (m := l_same_m) rfl rfl fun cdv A outer s H vs E hl hr => ?_
  obtain ⟨v0, v1, v2, rfl⟩ := len3 hl
  have hu : (A.deeper (PyProof.Rows.envOfC "_law_same" (defScope (topS 16)) s.heap.objs.size fa cdv)).units + 65 < cLine := by have := hr.un; omega
  refine ⟨l_same_G K C v0 v1 v2, l_same_Gr K C v0 v1 v2, l_same_G K C v0 v1 v2, ⟨fun _ _ _ _ _ _ h => h, fun _ _ _ _ _ _ h => h, fun _ _ _ _ _ _ h => h, trivial⟩, ⟨fun _ _ _ _ _ _ _ _ => trivial, fun _ _ _ _ _ _ _ _ => trivial, fun _ _ _ _ _ _ _ _ => trivial, trivial⟩, ?_⟩
  exact (.cons (Γ1 := l_same_G _ C v0 v1 v2)
    (.for_ (Γt := l_same_G _ C v0 v1 v2) PassesOwn.never rfl (.range1 (by rfl) z_range .int) ⟨.inl rfl, ⟨.inl rfl, ⟨.inl rfl, ⟨.inl rfl, ⟨.inl rfl, ⟨.inl rfl, ⟨.inl rfl, ⟨.inl rfl, ⟨.inl rfl, trivial⟩⟩⟩⟩⟩⟩⟩⟩⟩ (.name (x := l_same_one) rfl l_same_sc.nd rfl (.inl rfl)) (.one (.for_ (Γt := l_same_G _ C v0 v1 v2) PassesOwn.never rfl (.range1 (by rfl) z_range .int) ⟨.inl rfl, ⟨.inl rfl, ⟨.inl rfl, ⟨.inl rfl, ⟨.inl rfl, ⟨.inl rfl, ⟨.inl rfl, ⟨.inl rfl, ⟨.inl rfl, trivial⟩⟩⟩⟩⟩⟩⟩⟩⟩ (.name (x := l_same_other) rfl l_same_sc.nd rfl (.inl rfl)) (.cons (Γ1 := l_same_G _ C v0 v1 v2)
    (.asg (x := l_same_due) (.coe toRaw_enc (.sub (.len (by rfl) z_len (.idx (.idx (.name (x := l_same_ways) (pv 2) rfl rfl) (.name (x := l_same_one) (pv 3) rfl rfl)) (.name (x := l_same_other) (pv 4) rfl rfl))) .int)) l_same_sc.nd rfl (.inl rfl))
  (.cons (Γ1 := l_same_G _ C v0 v1 v2)
    (.asg (x := l_same_found) (.meth (.v (.v .nil)) TC0.cl h_T_distance G_T_distance (hr.mono (by decide)) b_T_distance rfl (tree_ins (by decide +kernel) (by decide +kernel) (by decide +kernel)) (.name (x := l_same_tree) (pv 0) rfl rfl) (.v rfl (.idx (.name (x := l_same_moved) (pv 1) rfl rfl) (.name (x := l_same_one) (pv 3) rfl rfl)) (.v rfl (.idx (.name (x := l_same_moved) (pv 1) rfl rfl) (.name (x := l_same_other) (pv 4) rfl rfl)) XA.nil)) (om := trivial)) l_same_sc.nd rfl (.inl rfl))
  (.one (.ite (.ofW (.or (.not (.val (.call (.v .nil) G_l_whole (hr.mono (by decide)) (by rfl) g_l_whole k_l_whole b_l_whole (.v rfl (.name (x := l_same_found) (pv 6) rfl rfl) XA.nil) (om := trivial)))) (.or (.ofC (.ne (.name (x := l_same_found) (pv 6) rfl rfl) (.coe ofRawN_enc (.name (x := l_same_due) (pv 5) rfl rfl)) hu)) (.or1 (.ofC (.ne (.ofC (.eq (.idx (.name (x := l_same_moved) (pv 1) rfl rfl) (.name (x := l_same_one) (pv 3) rfl rfl)) (.idx (.name (x := l_same_moved) (pv 1) rfl rfl) (.name (x := l_same_other) (pv 4) rfl rfl)) hu)) (.ofC (.eq (.coe ofRawN_enc (.name (x := l_same_due) (pv 5) rfl rfl)) .int hu)) hu)))))) (.one (.ret .bl ⟨.inr rfl, ⟨.inr rfl, ⟨.inr rfl, ⟨.inr rfl, ⟨.inr rfl, ⟨.inr rfl, ⟨.inr rfl, ⟨.inr rfl, ⟨.inr rfl, trivial⟩⟩⟩⟩⟩⟩⟩⟩⟩)) XSs.nil)))))))
  (.cons (Γ1 := l_same_G _ C v0 v1 v2)
    (.for_ (Γt := l_same_G _ C v0 v1 v2) PassesOwn.never rfl (.range1 (by rfl) z_range .int) ⟨.inl rfl, ⟨.inl rfl, ⟨.inl rfl, ⟨.inl rfl, ⟨.inl rfl, ⟨.inl rfl, ⟨.inl rfl, ⟨.inl rfl, ⟨.inl rfl, trivial⟩⟩⟩⟩⟩⟩⟩⟩⟩ (.name (x := l_same_one) rfl l_same_sc.nd rfl (.inl rfl)) (.one (.for_ (Γt := l_same_G _ C v0 v1 v2) PassesOwn.never rfl (.range1 (by rfl) z_range (.name (x := l_same_one) (pv 3) rfl rfl)) ⟨.inl rfl, ⟨.inl rfl, ⟨.inl rfl, ⟨.inl rfl, ⟨.inl rfl, ⟨.inl rfl, ⟨.inl rfl, ⟨.inl rfl, ⟨.inl rfl, trivial⟩⟩⟩⟩⟩⟩⟩⟩⟩ (.name (x := l_same_other) rfl l_same_sc.nd rfl (.inl rfl)) (.cons (Γ1 := l_same_G _ C v0 v1 v2)
    (.asg (x := l_same_third) (.mod (.intOf (by rfl) z_int (.add (.add (.name (x := l_same_one) (pv 3) rfl rfl) (.mul .int (.name (x := l_same_other) (pv 4) rfl rfl))) .int)) .int) l_same_sc.nd rfl (.inl rfl))
  (.cons (Γ1 := l_same_G _ C v0 v1 v2)
    (.asg (x := l_same_around) (.add (.len (by rfl) z_len (.idx (.idx (.name (x := l_same_ways) (pv 2) rfl rfl) (.name (x := l_same_one) (pv 3) rfl rfl)) (.name (x := l_same_third) (pv 7) rfl rfl))) (.len (by rfl) z_len (.idx (.idx (.name (x := l_same_ways) (pv 2) rfl rfl) (.name (x := l_same_third) (pv 7) rfl rfl)) (.name (x := l_same_other) (pv 4) rfl rfl)))) l_same_sc.nd rfl (.inl rfl))
  (.cons (Γ1 := l_same_G _ C v0 v1 v2)
    (.asg (x := l_same_due) (.coe toRaw_enc (.ofC (.eq (.name (x := l_same_around) (pv 8) rfl rfl) (.add (.len (by rfl) z_len (.idx (.idx (.name (x := l_same_ways) (pv 2) rfl rfl) (.name (x := l_same_one) (pv 3) rfl rfl)) (.name (x := l_same_other) (pv 4) rfl rfl))) .int) hu))) l_same_sc.nd rfl (.inl rfl))
  (.one (.ite (.ofC (.ne (.meth (.v (.v (.v .nil))) TC0.cl h_T_on_way G_T_on_way (hr.mono (by decide)) b_T_on_way rfl (tree_ins (by decide +kernel) (by decide +kernel) (by decide +kernel)) (.name (x := l_same_tree) (pv 0) rfl rfl) (.v rfl (.idx (.name (x := l_same_moved) (pv 1) rfl rfl) (.name (x := l_same_third) (pv 7) rfl rfl)) (.v rfl (.idx (.name (x := l_same_moved) (pv 1) rfl rfl) (.name (x := l_same_one) (pv 3) rfl rfl)) (.v rfl (.idx (.name (x := l_same_moved) (pv 1) rfl rfl) (.name (x := l_same_other) (pv 4) rfl rfl)) XA.nil))) (om := trivial)) (.coe ofRawB_enc (.name (x := l_same_due) (pv 5) rfl rfl)) hu)) (.one (.ret .bl ⟨.inr rfl, ⟨.inr rfl, ⟨.inr rfl, ⟨.inr rfl, ⟨.inr rfl, ⟨.inr rfl, ⟨.inr rfl, ⟨.inr rfl, ⟨.inr rfl, trivial⟩⟩⟩⟩⟩⟩⟩⟩⟩)) XSs.nil))))))))
  (.one (.ret .bl ⟨.inr rfl, ⟨.inr rfl, ⟨.inr rfl, ⟨.inr rfl, ⟨.inr rfl, ⟨.inr rfl, ⟨.inr rfl, ⟨.inr rfl, ⟨.inr rfl, trivial⟩⟩⟩⟩⟩⟩⟩⟩⟩))))
abbrev l_moved_steps_ps : List Type := [TreeD, TreeD, Int, (T4 (Int × Int) (Int × Int) (Int × Int) (Int × Int)), Int]
abbrev l_moved_steps_ls : List Type := [Int, (Int × Int), (Int × Int), (Int × Int), (Int × Int), (Int × Int)]
abbrev l_moved_steps_T : List Type := [TreeD, TreeD, Int, (T4 (Int × Int) (Int × Int) (Int × Int) (Int × Int)), Int, Int, (Int × Int), (Int × Int), (Int × Int), (Int × Int), (Int × Int)]
abbrev l_moved_steps_tree : Var l_moved_steps_T TreeD := .vz
abbrev l_moved_steps_upper : Var l_moved_steps_T TreeD := .vs .vz
abbrev l_moved_steps_root : Var l_moved_steps_T Int := .vs (.vs .vz)
abbrev l_moved_steps_ends : Var l_moved_steps_T (T4 (Int × Int) (Int × Int) (Int × Int) (Int × Int)) := .vs (.vs (.vs .vz))
abbrev l_moved_steps_whole : Var l_moved_steps_T Int := .vs (.vs (.vs (.vs .vz)))
abbrev l_moved_steps_far : Var l_moved_steps_T Int := .vs (.vs (.vs (.vs (.vs .vz))))
abbrev l_moved_steps_one : Var l_moved_steps_T (Int × Int) := .vs (.vs (.vs (.vs (.vs (.vs .vz)))))
abbrev l_moved_steps_other : Var l_moved_steps_T (Int × Int) := .vs (.vs (.vs (.vs (.vs (.vs (.vs .vz))))))
abbrev l_moved_steps_here : Var l_moved_steps_T (Int × Int) := .vs (.vs (.vs (.vs (.vs (.vs (.vs (.vs .vz)))))))
abbrev l_moved_steps_there : Var l_moved_steps_T (Int × Int) := .vs (.vs (.vs (.vs (.vs (.vs (.vs (.vs (.vs .vz))))))))
abbrev l_moved_steps_point : Var l_moved_steps_T (Int × Int) := .vs (.vs (.vs (.vs (.vs (.vs (.vs (.vs (.vs (.vs .vz)))))))))
abbrev l_moved_steps_G (K : Fr) (C : Nat → Addr) (v0 v1 v2 v3 v4 : V) : RTs K l_moved_steps_T := ((RT.tree K (C 0), ((RT.tree K (C 0), ((RT.dat K Int, ((RT.dat K (T4 (Int × Int) (Int × Int) (Int × Int) (Int × Int)), ((RT.dat K Int, ((RT.dat K Int, ((RT.dat K (Int × Int), ((RT.dat K (Int × Int), ((RT.dat K (Int × Int), ((RT.dat K (Int × Int), ((RT.dat K (Int × Int), ()) : RT K (Int × Int) × RTs K [])) : RT K (Int × Int) × RTs K [(Int × Int)])) : RT K (Int × Int) × RTs K [(Int × Int), (Int × Int)])) : RT K (Int × Int) × RTs K [(Int × Int), (Int × Int), (Int × Int)])) : RT K (Int × Int) × RTs K [(Int × Int), (Int × Int), (Int × Int), (Int × Int)])) : RT K Int × RTs K [(Int × Int), (Int × Int), (Int × Int), (Int × Int), (Int × Int)])) : RT K Int × RTs K [Int, (Int × Int), (Int × Int), (Int × Int), (Int × Int), (Int × Int)])) : RT K (T4 (Int × Int) (Int × Int) (Int × Int) (Int × Int)) × RTs K [Int, Int, (Int × Int), (Int × Int), (Int × Int), (Int × Int), (Int × Int)])) : RT K Int × RTs K [(T4 (Int × Int) (Int × Int) (Int × Int) (Int × Int)), Int, Int, (Int × Int), (Int × Int), (Int × Int), (Int × Int), (Int × Int)])) : RT K TreeD × RTs K [Int, (T4 (Int × Int) (Int × Int) (Int × Int) (Int × Int)), Int, Int, (Int × Int), (Int × Int), (Int × Int), (Int × Int), (Int × Int)])) : RT K TreeD × RTs K [TreeD, Int, (T4 (Int × Int) (Int × Int) (Int × Int) (Int × Int)), Int, Int, (Int × Int), (Int × Int), (Int × Int), (Int × Int), (Int × Int)])
abbrev l_moved_steps_Gr (K : Fr) (C : Nat → Addr) (v0 v1 v2 v3 v4 : V) : RTs K l_moved_steps_T := ((RT.dead K TreeD, ((RT.dead K TreeD, ((RT.dead K Int, ((RT.dead K (T4 (Int × Int) (Int × Int) (Int × Int) (Int × Int)), ((RT.dead K Int, ((RT.dead K Int, ((RT.dead K (Int × Int), ((RT.dead K (Int × Int), ((RT.dead K (Int × Int), ((RT.dead K (Int × Int), ((RT.dead K (Int × Int), ()) : RT K (Int × Int) × RTs K [])) : RT K (Int × Int) × RTs K [(Int × Int)])) : RT K (Int × Int) × RTs K [(Int × Int), (Int × Int)])) : RT K (Int × Int) × RTs K [(Int × Int), (Int × Int), (Int × Int)])) : RT K (Int × Int) × RTs K [(Int × Int), (Int × Int), (Int × Int), (Int × Int)])) : RT K Int × RTs K [(Int × Int), (Int × Int), (Int × Int), (Int × Int), (Int × Int)])) : RT K Int × RTs K [Int, (Int × Int), (Int × Int), (Int × Int), (Int × Int), (Int × Int)])) : RT K (T4 (Int × Int) (Int × Int) (Int × Int) (Int × Int)) × RTs K [Int, Int, (Int × Int), (Int × Int), (Int × Int), (Int × Int), (Int × Int)])) : RT K Int × RTs K [(T4 (Int × Int) (Int × Int) (Int × Int) (Int × Int)), Int, Int, (Int × Int), (Int × Int), (Int × Int), (Int × Int), (Int × Int)])) : RT K TreeD × RTs K [Int, (T4 (Int × Int) (Int × Int) (Int × Int) (Int × Int)), Int, Int, (Int × Int), (Int × Int), (Int × Int), (Int × Int), (Int × Int)])) : RT K TreeD × RTs K [TreeD, Int, (T4 (Int × Int) (Int × Int) (Int × Int) (Int × Int)), Int, Int, (Int × Int), (Int × Int), (Int × Int), (Int × Int), (Int × Int)])
abbrev l_moved_steps_R (K : Fr) (C : Nat → Addr) : RT K Bool := RT.dat K Bool
noncomputable def l_moved_steps_m : MS l_moved_steps_T Bool := (sSeq (sAsgG (fun (w : T4 _ _ _ _) s => l_moved_steps_there.set (some w.d) (l_moved_steps_here.set (some w.c) (l_moved_steps_other.set (some w.b) (l_moved_steps_one.set (some w.a) s)))) (mV l_moved_steps_ends))
  (sSeq (sFor (m1 lstO (m2 consO (mC (0 : Int)) (m2 consO (m2 idiv (mV l_moved_steps_whole) (mC (3 : Int))) (m2 consO (m2 idiv (mV l_moved_steps_whole) (mC (2 : Int))) (m2 consO (mV l_moved_steps_whole) (mC ([] : List Int))))))) (fun y s => l_moved_steps_far.set (some y) s) (sSeq (sAsg l_moved_steps_point (mCall (.v (.v (.v (.v .nil)))) (bodyF (ps := T_towards_ps) (ls := T_towards_ls) T_towards_m) (aV (mV l_moved_steps_upper) (aV (mV l_moved_steps_one) (aV (mV l_moved_steps_other) (aV (mV l_moved_steps_far) aNil))))))
  (sIf (m2 ine (mCall (.v (.v (.v (.v .nil)))) (bodyF (ps := T_towards_ps) (ls := T_towards_ls) T_towards_m) (aV (mV l_moved_steps_tree) (aV (mV l_moved_steps_here) (aV (mV l_moved_steps_there) (aV (mV l_moved_steps_far) aNil))))) (mCall (.v (.v (.v .nil))) (bodyF (ps := T_hung_point_ps) (ls := T_hung_point_ls) T_hung_point_m) (aV (mV l_moved_steps_upper) (aV (mV l_moved_steps_root) (aV (mV l_moved_steps_point) aNil))))) (sRet (mC false)) sSkip)))
  (sRet (mC true))))
noncomputable abbrev l_moved_steps_fs (K : Fr) (C : Nat → Addr) : Fs K := { ps := l_moved_steps_ps, Γp := (((RT.tree K (C 0), ((RT.tree K (C 0), ((RT.dat K Int, ((RT.dat K (T4 (Int × Int) (Int × Int) (Int × Int) (Int × Int)), ((RT.dat K Int, ()) : RT K Int × RTs K [])) : RT K (T4 (Int × Int) (Int × Int) (Int × Int) (Int × Int)) × RTs K [Int])) : RT K Int × RTs K [(T4 (Int × Int) (Int × Int) (Int × Int) (Int × Int)), Int])) : RT K TreeD × RTs K [Int, (T4 (Int × Int) (Int × Int) (Int × Int) (Int × Int)), Int])) : RT K TreeD × RTs K [TreeD, Int, (T4 (Int × Int) (Int × Int) (Int × Int) (Int × Int)), Int]) : RTs K l_moved_steps_ps), Γo := (((RT.dead K TreeD, ((RT.dead K TreeD, ((RT.dead K Int, ((RT.dead K (T4 (Int × Int) (Int × Int) (Int × Int) (Int × Int)), ((RT.dead K Int, ()) : RT K Int × RTs K [])) : RT K (T4 (Int × Int) (Int × Int) (Int × Int) (Int × Int)) × RTs K [Int])) : RT K Int × RTs K [(T4 (Int × Int) (Int × Int) (Int × Int) (Int × Int)), Int])) : RT K TreeD × RTs K [Int, (T4 (Int × Int) (Int × Int) (Int × Int) (Int × Int)), Int])) : RT K TreeD × RTs K [TreeD, Int, (T4 (Int × Int) (Int × Int) (Int × Int) (Int × Int)), Int]) : RTs K l_moved_steps_ps), ρ := Bool, R := l_moved_steps_R K C, f := (bodyF (ps := l_moved_steps_ps) (ls := l_moved_steps_ls) l_moved_steps_m) }
theorem l_moved_steps_sc : FnScope ["tree", "upper", "root", "ends", "whole", "far", "one", "other", "here", "there", "point"] ["tree", "upper", "root", "ends", "whole"] (defScope (topS 17)) := ⟨rfl, rfl, rfl, by decide +kernel, rfl, by decide +kernel, by decide +kernel⟩
theorem l_moved_steps_ok {fa : Addr} {fd : FuncData} (F : Fun K "_law_moved_steps" "_law_moved_steps" (topS 17) fa fd) (TC0 : TC K (C 0)) {a_T_towards : Addr} {d_T_towards : FuncData} (G_T_towards : FnOk Pr w K mg base CX0 7 a_T_towards d_T_towards ["self", "one", "other", "far"] (spF (T_towards_fs K C))) (b_T_towards : Binds K d_T_towards ["self", "one", "other", "far"] []) (h_T_towards : Meth K (C 0) "towards" a_T_towards) {a_T_hung_point : Addr} {d_T_hung_point : FuncData} (G_T_hung_point : FnOk Pr w K mg base CX0 3 a_T_hung_point d_T_hung_point ["self", "node", "point"] (spF (T_hung_point_fs K C))) (b_T_hung_point : Binds K d_T_hung_point ["self", "node", "point"] []) (h_T_hung_point : Meth K (C 0) "hung_point" a_T_hung_point) : FnOk Pr w K mg base CX0 8 fa fd ["tree", "upper", "root", "ends", "whole"] (spF (l_moved_steps_fs K C)) := by
  refine fs_ok (k := 7) F l_moved_steps_sc (ps := l_moved_steps_ps) (ls := l_moved_steps_ls) (m := l_moved_steps_m) rfl rfl fun cdv A outer s H vs E hl hr => ?_
  obtain ⟨v0, v1, v2, v3, v4, rfl⟩ := len5 hl
  have hu : (A.deeper (PyProof.Rows.envOfC "_law_moved_steps" (defScope (topS 17)) s.heap.objs.size fa cdv)).units + 65 < cLine := by have := hr.un; omega
  refine ⟨l_moved_steps_G K C v0 v1 v2 v3 v4, l_moved_steps_Gr K C v0 v1 v2 v3 v4, l_moved_steps_G K C v0 v1 v2 v3 v4, ⟨fun _ _ _ _ _ _ h => h, fun _ _ _ _ _ _ h => h, fun _ _ _ _ _ _ h => h, fun _ _ _ _ _ _ h => h, fun _ _ _ _ _ _ h => h, trivial⟩, ⟨fun _ _ _ _ _ _ _ _ => trivial, fun _ _ _ _ _ _ _ _ => trivial, fun _ _ _ _ _ _ _ _ => trivial, fun _ _ _ _ _ _ _ _ => trivial, fun _ _ _ _ _ _ _ _ => trivial, trivial⟩, ?_⟩
  exact (.cons (Γ1 := l_moved_steps_G _ C v0 v1 v2 v3 v4)
    (.asgG rfl (.name (x := l_moved_steps_ends) (pv 3) rfl rfl) (.quad (x := l_moved_steps_one) (y := l_moved_steps_other) (z := l_moved_steps_here) (t := l_moved_steps_there) rfl l_moved_steps_sc.nd rfl (.inl rfl) rfl (.inl rfl) rfl (.inl rfl) rfl (.inl rfl)))
  (.cons (Γ1 := l_moved_steps_G _ C v0 v1 v2 v3 v4)
    (.for_ (Γt := l_moved_steps_G _ C v0 v1 v2 v3 v4) PassesOwn.never rfl (.list (.dat (.lst (.cons .int (.cons (.fdiv (.name (x := l_moved_steps_whole) (pv 4) rfl rfl) .int) (.cons (.fdiv (.name (x := l_moved_steps_whole) (pv 4) rfl rfl) .int) (.cons (.name (x := l_moved_steps_whole) (pv 4) rfl rfl) .nil))))))) ⟨.inl rfl, ⟨.inl rfl, ⟨.inl rfl, ⟨.inl rfl, ⟨.inl rfl, ⟨.inl rfl, ⟨.inl rfl, ⟨.inl rfl, ⟨.inl rfl, ⟨.inl rfl, ⟨.inl rfl, trivial⟩⟩⟩⟩⟩⟩⟩⟩⟩⟩⟩ (.name (x := l_moved_steps_far) rfl l_moved_steps_sc.nd rfl (.inl rfl)) (.cons (Γ1 := l_moved_steps_G _ C v0 v1 v2 v3 v4)
    (.asg (x := l_moved_steps_point) (.meth (.v (.v (.v .nil))) TC0.cl h_T_towards G_T_towards (hr.mono (by decide)) b_T_towards rfl (tree_ins (by decide +kernel) (by decide +kernel) (by decide +kernel)) (.name (x := l_moved_steps_upper) (pv 1) rfl rfl) (.v rfl (.name (x := l_moved_steps_one) (pv 6) rfl rfl) (.v rfl (.name (x := l_moved_steps_other) (pv 7) rfl rfl) (.v rfl (.name (x := l_moved_steps_far) (pv 5) rfl rfl) XA.nil))) (om := trivial)) l_moved_steps_sc.nd rfl (.inl rfl))
  (.one (.ite (.ofC (.ne (.meth (.v (.v (.v .nil))) TC0.cl h_T_towards G_T_towards (hr.mono (by decide)) b_T_towards rfl (tree_ins (by decide +kernel) (by decide +kernel) (by decide +kernel)) (.name (x := l_moved_steps_tree) (pv 0) rfl rfl) (.v rfl (.name (x := l_moved_steps_here) (pv 8) rfl rfl) (.v rfl (.name (x := l_moved_steps_there) (pv 9) rfl rfl) (.v rfl (.name (x := l_moved_steps_far) (pv 5) rfl rfl) XA.nil))) (om := trivial)) (.meth (.v (.v .nil)) TC0.cl h_T_hung_point G_T_hung_point (hr.mono (by decide)) b_T_hung_point rfl (tree_ins (by decide +kernel) (by decide +kernel) (by decide +kernel)) (.name (x := l_moved_steps_upper) (pv 1) rfl rfl) (.v rfl (.name (x := l_moved_steps_root) (pv 2) rfl rfl) (.v rfl (.name (x := l_moved_steps_point) (pv 10) rfl rfl) XA.nil)) (om := trivial)) hu)) (.one (.ret .bl ⟨.inr rfl, ⟨.inr rfl, ⟨.inr rfl, ⟨.inr rfl, ⟨.inr rfl, ⟨.inr rfl, ⟨.inr rfl, ⟨.inr rfl, ⟨.inr rfl, ⟨.inr rfl, ⟨.inr rfl, trivial⟩⟩⟩⟩⟩⟩⟩⟩⟩⟩⟩)) XSs.nil))))
  (.one (.ret .bl ⟨.inr rfl, ⟨.inr rfl, ⟨.inr rfl, ⟨.inr rfl, ⟨.inr rfl, ⟨.inr rfl, ⟨.inr rfl, ⟨.inr rfl, ⟨.inr rfl, ⟨.inr rfl, ⟨.inr rfl, trivial⟩⟩⟩⟩⟩⟩⟩⟩⟩⟩⟩))))
abbrev l_case_N : List Str := ["digits", "roads", "points", "ways", "tree", "moved", "turn", "root", "made", "after", "ends", "one", "other", "point", "pair"]
abbrev l_case_ps : List Type := [List Int]
abbrev l_case_ls : List Type := [List (Int × Int), List (Int × Int), List (List (List (Int × Int))), TreeD, List (Int × Int), Int, Int, TreeD, List (Int × Int), (T4 (Int × Int) (Int × Int) (Int × Int) (Int × Int)), (Int × Int), (Int × Int), (Int × Int), (Int × Int)]
abbrev l_case_T : List Type := [List Int, List (Int × Int), List (Int × Int), List (List (List (Int × Int))), TreeD, List (Int × Int), Int, Int, TreeD, List (Int × Int), (T4 (Int × Int) (Int × Int) (Int × Int) (Int × Int)), (Int × Int), (Int × Int), (Int × Int), (Int × Int)]
abbrev l_case_digits : Var l_case_T (List Int) := .vz
abbrev l_case_roads : Var l_case_T (List (Int × Int)) := .vs .vz
abbrev l_case_points : Var l_case_T (List (Int × Int)) := .vs (.vs .vz)
abbrev l_case_ways : Var l_case_T (List (List (List (Int × Int)))) := .vs (.vs (.vs .vz))
abbrev l_case_tree : Var l_case_T TreeD := .vs (.vs (.vs (.vs .vz)))
abbrev l_case_moved : Var l_case_T (List (Int × Int)) := .vs (.vs (.vs (.vs (.vs .vz))))
abbrev l_case_turn : Var l_case_T Int := .vs (.vs (.vs (.vs (.vs (.vs .vz)))))
abbrev l_case_root : Var l_case_T Int := .vs (.vs (.vs (.vs (.vs (.vs (.vs .vz))))))
abbrev l_case_made : Var l_case_T TreeD := .vs (.vs (.vs (.vs (.vs (.vs (.vs (.vs .vz)))))))
abbrev l_case_after : Var l_case_T (List (Int × Int)) := .vs (.vs (.vs (.vs (.vs (.vs (.vs (.vs (.vs .vz))))))))
abbrev l_case_ends : Var l_case_T (T4 (Int × Int) (Int × Int) (Int × Int) (Int × Int)) := .vs (.vs (.vs (.vs (.vs (.vs (.vs (.vs (.vs (.vs .vz)))))))))
abbrev l_case_one : Var l_case_T (Int × Int) := .vs (.vs (.vs (.vs (.vs (.vs (.vs (.vs (.vs (.vs (.vs .vz))))))))))
abbrev l_case_other : Var l_case_T (Int × Int) := .vs (.vs (.vs (.vs (.vs (.vs (.vs (.vs (.vs (.vs (.vs (.vs .vz)))))))))))
abbrev l_case_point : Var l_case_T (Int × Int) := .vs (.vs (.vs (.vs (.vs (.vs (.vs (.vs (.vs (.vs (.vs (.vs (.vs .vz))))))))))))
abbrev l_case_pair : Var l_case_T (Int × Int) := .vs (.vs (.vs (.vs (.vs (.vs (.vs (.vs (.vs (.vs (.vs (.vs (.vs (.vs .vz)))))))))))))
abbrev l_case_G (K : Fr) (C : Nat → Addr) (v0 : V) : RTs K l_case_T := ((RT.at v0 (RT.own K Int), ((RT.dat K (List (Int × Int)), ((RT.dat K (List (Int × Int)), ((RT.dat K (List (List (List (Int × Int)))), ((RT.tree K (C 0), ((RT.dat K (List (Int × Int)), ((RT.dat K Int, ((RT.dat K Int, ((RT.tree K (C 0), ((RT.dat K (List (Int × Int)), ((RT.dat K (T4 (Int × Int) (Int × Int) (Int × Int) (Int × Int)), ((RT.dat K (Int × Int), ((RT.dat K (Int × Int), ((RT.dat K (Int × Int), ((RT.dat K (Int × Int), ()) : RT K (Int × Int) × RTs K [])) : RT K (Int × Int) × RTs K [(Int × Int)])) : RT K (Int × Int) × RTs K [(Int × Int), (Int × Int)])) : RT K (Int × Int) × RTs K [(Int × Int), (Int × Int), (Int × Int)])) : RT K (T4 (Int × Int) (Int × Int) (Int × Int) (Int × Int)) × RTs K [(Int × Int), (Int × Int), (Int × Int), (Int × Int)])) : RT K (List (Int × Int)) × RTs K [(T4 (Int × Int) (Int × Int) (Int × Int) (Int × Int)), (Int × Int), (Int × Int), (Int × Int), (Int × Int)])) : RT K TreeD × RTs K [List (Int × Int), (T4 (Int × Int) (Int × Int) (Int × Int) (Int × Int)), (Int × Int), (Int × Int), (Int × Int), (Int × Int)])) : RT K Int × RTs K [TreeD, List (Int × Int), (T4 (Int × Int) (Int × Int) (Int × Int) (Int × Int)), (Int × Int), (Int × Int), (Int × Int), (Int × Int)])) : RT K Int × RTs K [Int, TreeD, List (Int × Int), (T4 (Int × Int) (Int × Int) (Int × Int) (Int × Int)), (Int × Int), (Int × Int), (Int × Int), (Int × Int)])) : RT K (List (Int × Int)) × RTs K [Int, Int, TreeD, List (Int × Int), (T4 (Int × Int) (Int × Int) (Int × Int) (Int × Int)), (Int × Int), (Int × Int), (Int × Int), (Int × Int)])) : RT K TreeD × RTs K [List (Int × Int), Int, Int, TreeD, List (Int × Int), (T4 (Int × Int) (Int × Int) (Int × Int) (Int × Int)), (Int × Int), (Int × Int), (Int × Int), (Int × Int)])) : RT K (List (List (List (Int × Int)))) × RTs K [TreeD, List (Int × Int), Int, Int, TreeD, List (Int × Int), (T4 (Int × Int) (Int × Int) (Int × Int) (Int × Int)), (Int × Int), (Int × Int), (Int × Int), (Int × Int)])) : RT K (List (Int × Int)) × RTs K [List (List (List (Int × Int))), TreeD, List (Int × Int), Int, Int, TreeD, List (Int × Int), (T4 (Int × Int) (Int × Int) (Int × Int) (Int × Int)), (Int × Int), (Int × Int), (Int × Int), (Int × Int)])) : RT K (List (Int × Int)) × RTs K [List (Int × Int), List (List (List (Int × Int))), TreeD, List (Int × Int), Int, Int, TreeD, List (Int × Int), (T4 (Int × Int) (Int × Int) (Int × Int) (Int × Int)), (Int × Int), (Int × Int), (Int × Int), (Int × Int)])) : RT K (List Int) × RTs K [List (Int × Int), List (Int × Int), List (List (List (Int × Int))), TreeD, List (Int × Int), Int, Int, TreeD, List (Int × Int), (T4 (Int × Int) (Int × Int) (Int × Int) (Int × Int)), (Int × Int), (Int × Int), (Int × Int), (Int × Int)])
abbrev l_case_Gr (K : Fr) (C : Nat → Addr) (v0 : V) : RTs K l_case_T := ((RT.at v0 (RT.own K Int), ((RT.dead K (List (Int × Int)), ((RT.dead K (List (Int × Int)), ((RT.dead K (List (List (List (Int × Int)))), ((RT.dead K TreeD, ((RT.dead K (List (Int × Int)), ((RT.dead K Int, ((RT.dead K Int, ((RT.dead K TreeD, ((RT.dead K (List (Int × Int)), ((RT.dead K (T4 (Int × Int) (Int × Int) (Int × Int) (Int × Int)), ((RT.dead K (Int × Int), ((RT.dead K (Int × Int), ((RT.dead K (Int × Int), ((RT.dead K (Int × Int), ()) : RT K (Int × Int) × RTs K [])) : RT K (Int × Int) × RTs K [(Int × Int)])) : RT K (Int × Int) × RTs K [(Int × Int), (Int × Int)])) : RT K (Int × Int) × RTs K [(Int × Int), (Int × Int), (Int × Int)])) : RT K (T4 (Int × Int) (Int × Int) (Int × Int) (Int × Int)) × RTs K [(Int × Int), (Int × Int), (Int × Int), (Int × Int)])) : RT K (List (Int × Int)) × RTs K [(T4 (Int × Int) (Int × Int) (Int × Int) (Int × Int)), (Int × Int), (Int × Int), (Int × Int), (Int × Int)])) : RT K TreeD × RTs K [List (Int × Int), (T4 (Int × Int) (Int × Int) (Int × Int) (Int × Int)), (Int × Int), (Int × Int), (Int × Int), (Int × Int)])) : RT K Int × RTs K [TreeD, List (Int × Int), (T4 (Int × Int) (Int × Int) (Int × Int) (Int × Int)), (Int × Int), (Int × Int), (Int × Int), (Int × Int)])) : RT K Int × RTs K [Int, TreeD, List (Int × Int), (T4 (Int × Int) (Int × Int) (Int × Int) (Int × Int)), (Int × Int), (Int × Int), (Int × Int), (Int × Int)])) : RT K (List (Int × Int)) × RTs K [Int, Int, TreeD, List (Int × Int), (T4 (Int × Int) (Int × Int) (Int × Int) (Int × Int)), (Int × Int), (Int × Int), (Int × Int), (Int × Int)])) : RT K TreeD × RTs K [List (Int × Int), Int, Int, TreeD, List (Int × Int), (T4 (Int × Int) (Int × Int) (Int × Int) (Int × Int)), (Int × Int), (Int × Int), (Int × Int), (Int × Int)])) : RT K (List (List (List (Int × Int)))) × RTs K [TreeD, List (Int × Int), Int, Int, TreeD, List (Int × Int), (T4 (Int × Int) (Int × Int) (Int × Int) (Int × Int)), (Int × Int), (Int × Int), (Int × Int), (Int × Int)])) : RT K (List (Int × Int)) × RTs K [List (List (List (Int × Int))), TreeD, List (Int × Int), Int, Int, TreeD, List (Int × Int), (T4 (Int × Int) (Int × Int) (Int × Int) (Int × Int)), (Int × Int), (Int × Int), (Int × Int), (Int × Int)])) : RT K (List (Int × Int)) × RTs K [List (Int × Int), List (List (List (Int × Int))), TreeD, List (Int × Int), Int, Int, TreeD, List (Int × Int), (T4 (Int × Int) (Int × Int) (Int × Int) (Int × Int)), (Int × Int), (Int × Int), (Int × Int), (Int × Int)])) : RT K (List Int) × RTs K [List (Int × Int), List (Int × Int), List (List (List (Int × Int))), TreeD, List (Int × Int), Int, Int, TreeD, List (Int × Int), (T4 (Int × Int) (Int × Int) (Int × Int) (Int × Int)), (Int × Int), (Int × Int), (Int × Int), (Int × Int)])
abbrev l_case_R (K : Fr) (C : Nat → Addr) : RT K Bool := RT.dat K Bool
noncomputable def l_case_m : MS l_case_T Bool := (sSeq (sAsg l_case_roads (mCall (.m l_case_digits (.v (.v .nil))) (bodyF (ps := l_roads_ps) (ls := l_roads_ls) l_roads_m) (aM l_case_digits (aV (mC (8 : Int)) (aV (m2 idx (m1 lstO (m2 consO (mC (1 : Int)) (m2 consO (mC (3 : Int)) (m2 consO (mC (6 : Int)) (m2 consO (mC (40 : Int)) (mC ([] : List Int))))))) (mCall (.m l_case_digits (.v .nil)) (bodyF (ps := l_take_ps) (ls := l_take_ls) l_take_m) (aM l_case_digits (aV (mC (4 : Int)) aNil)))) aNil)))))
  (sSeq (sAsg l_case_points (mLc (m1 rng (mC (6 : Int))) (fun y s => l_case_turn.set (some y) s) (Own.one l_case_turn).rs (mC true) (mCall (.m l_case_digits (.v .nil)) (bodyF (ps := l_point_ps) (ls := l_point_ls) l_point_m) (aM l_case_digits (aV (mV l_case_roads) aNil)))))
  (sSeq (sAsg l_case_ways (mLc (mV l_case_points) (fun y s => l_case_one.set (some y) s) (Own.one l_case_one).rs (mC true) (mLc (mV l_case_points) (fun y s => l_case_other.set (some y) s) (Own.one l_case_other).rs (mC true) (mCall (.v (.v (.v .nil))) (bodyF (ps := l_way_ps) (ls := l_way_ls) l_way_m) (aV (mV l_case_roads) (aV (mV l_case_one) (aV (mV l_case_other) aNil)))))))
  (sSeq (sAsg l_case_tree (m1 idO (mMake none (bodyN (ps := T_init_ps) (ls := T_init_ls) T_init_m) (aV (m1 copyl (mV l_case_roads)) aNil))))
  (sSeq (sAsg l_case_moved (m1 copyl (mV l_case_points)))
  (sSeq (sIf (m1 bnot (mCall (.v (.v (.v .nil))) (bodyF (ps := l_same_ps) (ls := l_same_ls) l_same_m) (aV (mV l_case_tree) (aV (mV l_case_moved) (aV (mV l_case_ways) aNil))))) (sRet (mC false)) sSkip)
  (sSeq (sFor (m1 rng (m2 iadd (mC (1 : Int)) (mCall (.m l_case_digits (.v .nil)) (bodyF (ps := l_take_ps) (ls := l_take_ls) l_take_m) (aM l_case_digits (aV (mC (4 : Int)) aNil))))) (fun y s => l_case_turn.set (some y) s) (sSeq (sAsg l_case_root (mCall (.m l_case_digits (.v .nil)) (bodyF (ps := l_take_ps) (ls := l_take_ls) l_take_m) (aM l_case_digits (aV (m2 iadd (m1 ilen (mV l_case_roads)) (mC (1 : Int))) aNil))))
  (sSeq (sAsg l_case_made (mCall (.v (.v .nil)) (bodyF (ps := T_hung_ps) (ls := T_hung_ls) T_hung_m) (aV (mV l_case_tree) (aV (mV l_case_root) aNil))))
  (sSeq (sAsg l_case_after (mLc (mV l_case_moved) (fun y s => l_case_point.set (some y) s) (Own.one l_case_point).rs (mC true) (mCall (.v (.v (.v .nil))) (bodyF (ps := T_hung_point_ps) (ls := T_hung_point_ls) T_hung_point_m) (aV (mV l_case_tree) (aV (mV l_case_root) (aV (mV l_case_point) aNil))))))
  (sSeq (sIf (mOr (m1 bnot (m1 isTr (mV l_case_made))) (mOr (m2 ine (mLenO (bodyF (ps := T_len_ps) (ls := T_len_ls) T_len_m) (mV l_case_made)) (m2 iadd (m1 ilen (mV l_case_roads)) (mC (1 : Int)))) (mIn true (bodyF (ps := T_contains_ps) (ls := T_contains_ls) T_contains_m) (m2 idx (mV l_case_after) (mC (0 : Int))) (mV l_case_made)))) (sRet (mC false)) sSkip)
  (sSeq (sIf (m2 ine (m1 isum (mLc (mCall (.v .nil) (bodyF (ps := T_roads_ps) (ls := T_roads_ls) T_roads_m) (aV (mV l_case_made) aNil)) (fun y s => l_case_pair.set (some y) s) (Own.one l_case_pair).rs (mC true) (m1 snd' (mV l_case_pair)))) (m1 isum (mLc (mV l_case_roads) (fun y s => l_case_pair.set (some y) s) (Own.one l_case_pair).rs (mC true) (m1 snd' (mV l_case_pair))))) (sRet (mC false)) sSkip)
  (sSeq (sAsg l_case_ends (m2 join4 (m2 pair (m2 idx (mV l_case_moved) (mC (0 : Int))) (m2 idx (mV l_case_moved) (mC (1 : Int)))) (m2 pair (m2 idx (mV l_case_after) (mC (0 : Int))) (m2 idx (mV l_case_after) (mC (1 : Int))))))
  (sSeq (sIf (m1 bnot (mCall (.v (.v (.v .nil))) (bodyF (ps := l_same_ps) (ls := l_same_ls) l_same_m) (aV (mV l_case_made) (aV (mV l_case_after) (aV (mV l_case_ways) aNil))))) (sRet (mC false)) sSkip)
  (sSeq (sIf (m1 bnot (mCall (.v (.v (.v (.v (.v .nil))))) (bodyF (ps := l_moved_steps_ps) (ls := l_moved_steps_ls) l_moved_steps_m) (aV (mV l_case_made) (aV (mV l_case_tree) (aV (mV l_case_root) (aV (mV l_case_ends) (aV (m2 isub (m1 ilen (m2 idx (m2 idx (mV l_case_ways) (mC (0 : Int))) (mC (1 : Int)))) (mC (1 : Int))) aNil))))))) (sRet (mC false)) sSkip)
  (sSeq (sIf (mOr (mIn true (bodyF (ps := T_contains_ps) (ls := T_contains_ls) T_contains_m) (m2 idx (mV l_case_moved) (mC (5 : Int))) (mV l_case_tree)) (mIn true (bodyF (ps := T_contains_ps) (ls := T_contains_ls) T_contains_m) (m2 idx (mV l_case_after) (mC (5 : Int))) (mV l_case_made))) (sRet (mC false)) sSkip)
  (sSeq (sIf (m2 ine (mCall (.v (.v (.v .nil))) (bodyF (ps := T_distance_ps) (ls := T_distance_ls) T_distance_m) (aV (mV l_case_tree) (aV (m2 idx (mV l_case_moved) (mC (2 : Int))) (aV (m2 idx (mV l_case_moved) (mC (3 : Int))) aNil)))) (m2 isub (m1 ilen (m2 idx (m2 idx (mV l_case_ways) (mC (2 : Int))) (mC (3 : Int)))) (mC (1 : Int)))) (sRet (mC false)) sSkip)
  (sPar l_case_tree l_case_moved (mV l_case_made) (mV l_case_after)))))))))))))
  (sRet (mC true)))))))))
noncomputable abbrev l_case_fs (K : Fr) (C : Nat → Addr) : Fs K := { ps := l_case_ps, Γp := (((RT.own K Int, ()) : RT K (List Int) × RTs K []) : RTs K l_case_ps), Γo := (((RT.own K Int, ()) : RT K (List Int) × RTs K []) : RTs K l_case_ps), ρ := Bool, R := l_case_R K C, f := (bodyF (ps := l_case_ps) (ls := l_case_ls) l_case_m) }
theorem l_case_sc : FnScope ["digits", "roads", "points", "ways", "tree", "moved", "turn", "root", "made", "after", "ends", "one", "other", "point", "pair"] ["digits"] (defScope (topS 18)) := ⟨rfl, rfl, rfl, by decide +kernel, rfl, by decide +kernel, by decide +kernel⟩
theorem l_case_ok {fa : Addr} {fd : FuncData} (F : Fun K "_law_case" "_law_case" (topS 18) fa fd) (TC0 : TC K (C 0)) {a_l_roads : Addr} {d_l_roads : FuncData} (G_l_roads : FnOk Pr w K mg base CX0 2 a_l_roads d_l_roads ["digits", "most", "longest"] (spF (l_roads_fs K C))) (b_l_roads : Binds K d_l_roads ["digits", "most", "longest"] []) (g_l_roads : mg "_law_roads" = some (.ref a_l_roads)) (k_l_roads : PySem.W.keepIn K (.ref a_l_roads) = true) {a_T_init : Addr} {d_T_init : FuncData} (G_T_init : FnOk Pr w K mg base CX0 3 a_T_init d_T_init ["self", "roads"] (spF (T_init_fs K C))) (b_T_init : Binds K d_T_init ["self", "roads"] []) (h_T_init : Mk K (C 0) a_T_init) (g_T_init : mg "Tree" = some (.ref (C 0))) {a_l_point : Addr} {d_l_point : FuncData} (G_l_point : FnOk Pr w K mg base CX0 2 a_l_point d_l_point ["digits", "roads"] (spF (l_point_fs K C))) (b_l_point : Binds K d_l_point ["digits", "roads"] []) (g_l_point : mg "_law_point" = some (.ref a_l_point)) (k_l_point : PySem.W.keepIn K (.ref a_l_point) = true) {a_l_same : Addr} {d_l_same : FuncData} (G_l_same : FnOk Pr w K mg base CX0 8 a_l_same d_l_same ["tree", "moved", "ways"] (spF (l_same_fs K C))) (b_l_same : Binds K d_l_same ["tree", "moved", "ways"] []) (g_l_same : mg "_law_same" = some (.ref a_l_same)) (k_l_same : PySem.W.keepIn K (.ref a_l_same) = true) {a_l_take : Addr} {d_l_take : FuncData} (G_l_take : FnOk Pr w K mg base CX0 1 a_l_take d_l_take ["digits", "many"] (spF (l_take_fs K C))) (b_l_take : Binds K d_l_take ["digits", "many"] []) (g_l_take : mg "_law_take" = some (.ref a_l_take)) (k_l_take : PySem.W.keepIn K (.ref a_l_take) = true) {a_l_way : Addr} {d_l_way : FuncData} (G_l_way : FnOk Pr w K mg base CX0 2 a_l_way d_l_way ["roads", "one", "other"] (spF (l_way_fs K C))) (b_l_way : Binds K d_l_way ["roads", "one", "other"] []) (g_l_way : mg "_law_way" = some (.ref a_l_way)) (k_l_way : PySem.W.keepIn K (.ref a_l_way) = true) {a_T_hung : Addr} {d_T_hung : FuncData} (G_T_hung : FnOk Pr w K mg base CX0 5 a_T_hung d_T_hung ["self", "node"] (spF (T_hung_fs K C))) (b_T_hung : Binds K d_T_hung ["self", "node"] []) (h_T_hung : Meth K (C 0) "hung" a_T_hung) {a_T_contains : Addr} {d_T_contains : FuncData} (G_T_contains : FnOk Pr w K mg base CX0 3 a_T_contains d_T_contains ["self", "point"] (spF (T_contains_fs K C))) (b_T_contains : Binds K d_T_contains ["self", "point"] []) (h_T_contains : Meth K (C 0) "__contains__" a_T_contains) {a_l_moved_steps : Addr} {d_l_moved_steps : FuncData} (G_l_moved_steps : FnOk Pr w K mg base CX0 8 a_l_moved_steps d_l_moved_steps ["tree", "upper", "root", "ends", "whole"] (spF (l_moved_steps_fs K C))) (b_l_moved_steps : Binds K d_l_moved_steps ["tree", "upper", "root", "ends", "whole"] []) (g_l_moved_steps : mg "_law_moved_steps" = some (.ref a_l_moved_steps)) (k_l_moved_steps : PySem.W.keepIn K (.ref a_l_moved_steps) = true) {a_T_hung_point : Addr} {d_T_hung_point : FuncData} (G_T_hung_point : FnOk Pr w K mg base CX0 3 a_T_hung_point d_T_hung_point ["self", "node", "point"] (spF (T_hung_point_fs K C))) (b_T_hung_point : Binds K d_T_hung_point ["self", "node", "point"] []) (h_T_hung_point : Meth K (C 0) "hung_point" a_T_hung_point) {a_T_len : Addr} {d_T_len : FuncData} (G_T_len : FnOk Pr w K mg base CX0 1 a_T_len d_T_len ["self"] (spF (T_len_fs K C))) (b_T_len : Binds K d_T_len ["self"] []) (h_T_len : Meth K (C 0) "__len__" a_T_len) {a_T_distance : Addr} {d_T_distance : FuncData} (G_T_distance : FnOk Pr w K mg base CX0 6 a_T_distance d_T_distance ["self", "one", "other"] (spF (T_distance_fs K C))) (b_T_distance : Binds K d_T_distance ["self", "one", "other"] []) (h_T_distance : Meth K (C 0) "distance" a_T_distance) {a_T_roads : Addr} {d_T_roads : FuncData} (G_T_roads : FnOk Pr w K mg base CX0 1 a_T_roads d_T_roads ["self"] (spF (T_roads_fs K C))) (b_T_roads : Binds K d_T_roads ["self"] []) {p_T_roads : Addr} (h_T_roads : PropOf K (C 0) "roads" p_T_roads a_T_roads) (OB : ObjK K (C 0)) (gT : mg "Tree" = some (.ref (C 0))) (z_list : mg "list" = none) (z_range : mg "range" = none) (z_sum : mg "sum" = none) (z_len : mg "len" = none) (z_isinstance : mg "isinstance" = none) : FnOk Pr w K mg base CX0 9 fa fd ["digits"] (spF (l_case_fs K C)) := by
  refine fs_ok (k := 8) F l_case_sc (ps := l_case_ps) (ls := l_case_ls) (m := l_case_m) rfl rfl fun cdv A outer s H vs E hl hr => ?_
  obtain ⟨v0, rfl⟩ := len1 hl
  have hu : (A.deeper (PyProof.Rows.envOfC "_law_case" (defScope (topS 18)) s.heap.objs.size fa cdv)).units + 65 < cLine := by have := hr.un; omega
  refine ⟨l_case_G K C v0, l_case_Gr K C v0, l_case_G K C v0, ⟨fun v G H x A e h => ⟨(Option.some.inj e).symm, h⟩, trivial⟩, ⟨fun v u G H x A e h => by cases (Option.some.inj e); cases h.1; exact h.2, trivial⟩, ?_⟩
  exact (.cons (Γ1 := l_case_G _ C v0)
    (.asg (x := l_case_roads) (.dat (.call (.m l_case_digits (.v (.v .nil))) G_l_roads (hr.mono (by decide)) (by rfl) g_l_roads k_l_roads b_l_roads (.m (x := l_case_digits) (pv 0) .at rfl (.v rfl .int (.v rfl (.idx (.dat (.lst (.cons .int (.cons .int (.cons .int (.cons .int .nil)))))) (.call (.m l_case_digits (.v .nil)) G_l_take (hr.mono (by decide)) (by rfl) g_l_take k_l_take b_l_take (.m (x := l_case_digits) (pv 0) .at rfl (.v rfl .int XA.nil)) (om := ⟨rfl, trivial⟩))) XA.nil))) (om := ⟨rfl, trivial⟩))) l_case_sc.nd rfl (.inr rfl))
  (.cons (Γ1 := l_case_G _ C v0)
    (.asg (x := l_case_points) (.dat (.lc (own := [("turn", 6)]) rfl l_case_sc.nd (blkOk_by (N := l_case_N) (sc := defScope (topS 18)) (by decide +kernel)) (Own.one l_case_turn) (.range1 (by rfl) z_range .int) (fixAt rfl) (fun _ _ _ => rfl) (fun _ _ _ _ _ => (.name (x := l_case_turn) rfl l_case_sc.nd rfl (.inl rfl))) (fun _ _ _ _ _ => XTs.nil) (fun _ _ _ _ _ => (.call (.m l_case_digits (.v .nil)) G_l_point (hr.mono (by decide)) (by rfl) g_l_point k_l_point b_l_point (.m (x := l_case_digits) (pv 0) .at rfl (.v rfl (.name (x := l_case_roads) (pv 1) rfl rfl) XA.nil)) (om := ⟨rfl, trivial⟩))))) l_case_sc.nd rfl (.inr rfl))
  (.cons (Γ1 := l_case_G _ C v0)
    (.asgLcG (z := l_case_ways) (Γb := (l_case_G _ C v0)) (own := [("one", 11)]) rfl l_case_sc.nd (blkOk_by (N := l_case_N) (sc := defScope (topS 18)) (by decide +kernel)) (Own.one l_case_one) rfl rfl (sw_true rfl rfl rfl (by decide +kernel)) (.list (.name (x := l_case_points) (pv 2) rfl rfl)) (fixAt rfl) (fun _ _ _ => rfl) (fun _ _ _ _ _ => (.name (x := l_case_one) rfl l_case_sc.nd rfl (.inr rfl))) (fun _ _ _ _ _ => XTs.nil) (fun _ _ _ _ _ => (.dat (.lc (own := [("other", 12)]) rfl l_case_sc.nd (by exact blkOk_by (N := l_case_N) (by rfl)) (Own.one l_case_other) (.list (.name (x := l_case_points) (pv 2) rfl rfl)) (fixAt rfl) (fun _ _ _ => rfl) (fun _ _ _ _ _ => (.name (x := l_case_other) rfl l_case_sc.nd rfl (.inl rfl))) (fun _ _ _ _ _ => XTs.nil) (fun _ _ _ _ _ => (.dat (.call (.v (.v (.v .nil))) G_l_way (hr.mono (by decide)) (by rfl) g_l_way k_l_way b_l_way (.v rfl (.name (x := l_case_roads) (pv 1) rfl rfl) (.v rfl (.name (x := l_case_one) (pv 11) rfl rfl) (.v rfl (.name (x := l_case_other) (pv 12) rfl rfl) XA.nil))) (om := trivial))))))) (tr := fun t h => (XV.dat h)))
  (.cons (Γ1 := l_case_G _ C v0)
    (.asg (x := l_case_tree) (.tree (.make tm_new h_T_init G_T_init (hr.mono (by decide)) (by rfl) g_T_init b_T_init (.v rfl (.dat (.list (by rfl) z_list (.name (x := l_case_roads) (pv 1) rfl rfl))) XA.nil))) l_case_sc.nd rfl (.inr rfl))
  (.cons (Γ1 := l_case_G _ C v0)
    (.asg (x := l_case_moved) (.dat (.list (by rfl) z_list (.name (x := l_case_points) (pv 2) rfl rfl))) l_case_sc.nd rfl (.inl rfl))
  (.cons (Γ1 := l_case_G _ C v0)
    (.ite (.not (.val (.call (.v (.v (.v .nil))) G_l_same (hr.mono (by decide)) (by rfl) g_l_same k_l_same b_l_same (.v rfl (.name (x := l_case_tree) (pv 4) rfl rfl) (.v rfl (.name (x := l_case_moved) (pv 5) rfl rfl) (.v rfl (.name (x := l_case_ways) (pv 3) rfl rfl) XA.nil))) (om := trivial)))) (.one (.ret .bl ⟨.inl rfl, ⟨.inr rfl, ⟨.inr rfl, ⟨.inr rfl, ⟨.inr rfl, ⟨.inr rfl, ⟨.inr rfl, ⟨.inr rfl, ⟨.inr rfl, ⟨.inr rfl, ⟨.inr rfl, ⟨.inr rfl, ⟨.inr rfl, ⟨.inr rfl, ⟨.inr rfl, trivial⟩⟩⟩⟩⟩⟩⟩⟩⟩⟩⟩⟩⟩⟩⟩)) XSs.nil)
  (.cons (Γ1 := l_case_G _ C v0)
    (.for_ (Γt := l_case_G _ C v0) PassesOwn.never rfl (.range1 (by rfl) z_range (.add .int (.call (.m l_case_digits (.v .nil)) G_l_take (hr.mono (by decide)) (by rfl) g_l_take k_l_take b_l_take (.m (x := l_case_digits) (pv 0) .at rfl (.v rfl .int XA.nil)) (om := ⟨rfl, trivial⟩)))) ⟨.inl rfl, ⟨.inl rfl, ⟨.inl rfl, ⟨.inl rfl, ⟨.inl rfl, ⟨.inl rfl, ⟨.inl rfl, ⟨.inl rfl, ⟨.inl rfl, ⟨.inl rfl, ⟨.inl rfl, ⟨.inl rfl, ⟨.inl rfl, ⟨.inl rfl, ⟨.inl rfl, trivial⟩⟩⟩⟩⟩⟩⟩⟩⟩⟩⟩⟩⟩⟩⟩ (.name (x := l_case_turn) rfl l_case_sc.nd rfl (.inl rfl)) (.cons (Γ1 := l_case_G _ C v0)
    (.asg (x := l_case_root) (.call (.m l_case_digits (.v .nil)) G_l_take (hr.mono (by decide)) (by rfl) g_l_take k_l_take b_l_take (.m (x := l_case_digits) (pv 0) .at rfl (.v rfl (.add (.len (by rfl) z_len (.name (x := l_case_roads) (pv 1) rfl rfl)) .int) XA.nil)) (om := ⟨rfl, trivial⟩)) l_case_sc.nd rfl (.inr rfl))
  (.cons (Γ1 := l_case_G _ C v0)
    (.asg (x := l_case_made) (.meth (.v .nil) TC0.cl h_T_hung G_T_hung (hr.mono (by decide)) b_T_hung rfl (tree_ins (by decide +kernel) (by decide +kernel) (by decide +kernel)) (.name (x := l_case_tree) (pv 4) rfl rfl) (.v rfl (.name (x := l_case_root) (pv 7) rfl rfl) XA.nil) (om := trivial)) l_case_sc.nd rfl (.inl rfl))
  (.cons (Γ1 := l_case_G _ C v0)
    (.asgLcG (z := l_case_after) (Γb := (l_case_G _ C v0)) (own := [("point", 13)]) rfl l_case_sc.nd (blkOk_by (N := l_case_N) (sc := defScope (topS 18)) (by decide +kernel)) (Own.one l_case_point) rfl rfl (sw_true rfl rfl rfl (by decide +kernel)) (.list (.name (x := l_case_moved) (pv 5) rfl rfl)) (fixAt rfl) (fun _ _ _ => rfl) (fun _ _ _ _ _ => (.name (x := l_case_point) rfl l_case_sc.nd rfl (.inl rfl))) (fun _ _ _ _ _ => XTs.nil) (fun _ _ _ _ _ => (.meth (.v (.v .nil)) TC0.cl h_T_hung_point G_T_hung_point (hr.mono (by decide)) b_T_hung_point rfl (tree_ins (by decide +kernel) (by decide +kernel) (by decide +kernel)) (.name (x := l_case_tree) (pv 4) rfl rfl) (.v rfl (.name (x := l_case_root) (pv 7) rfl rfl) (.v rfl (.name (x := l_case_point) (pv 13) rfl rfl) XA.nil)) (om := trivial))) (tr := fun t h => (XV.dat h)))
  (.cons (Γ1 := l_case_G _ C v0)
    (.ite (.ofW (.or (.not (.val (.isTree OB (by rfl) z_isinstance (by rfl) gT (.name (x := l_case_made) (pv 8) rfl rfl)))) (.or (.ofC (.ne (.lenO G_T_len (hr.mono (by decide)) b_T_len h_T_len.at_ h_T_len.fn rfl (tree_ins (by decide +kernel) (by decide +kernel) (by decide +kernel)) (by rfl) z_len (.name (x := l_case_made) (pv 8) rfl rfl)) (.add (.len (by rfl) z_len (.name (x := l_case_roads) (pv 1) rfl rfl)) .int) hu)) (.or1 (.ofC (.notInO G_T_contains (hr.mono (by decide)) b_T_contains h_T_contains.at_ h_T_contains.fn rfl rfl (tree_ins (by decide +kernel) (by decide +kernel) (by decide +kernel)) (.idx (.name (x := l_case_after) (pv 9) rfl rfl) .int) (.name (x := l_case_made) (pv 8) rfl rfl))))))) (.one (.ret .bl ⟨.inl rfl, ⟨.inr rfl, ⟨.inr rfl, ⟨.inr rfl, ⟨.inr rfl, ⟨.inr rfl, ⟨.inr rfl, ⟨.inr rfl, ⟨.inr rfl, ⟨.inr rfl, ⟨.inr rfl, ⟨.inr rfl, ⟨.inr rfl, ⟨.inr rfl, ⟨.inr rfl, trivial⟩⟩⟩⟩⟩⟩⟩⟩⟩⟩⟩⟩⟩⟩⟩)) XSs.nil)
  (.cons (Γ1 := l_case_G _ C v0)
    (.ite (.ofC (.ne (.sum rfl (by rfl) z_sum (.dat (.lc (own := [("pair", 14)]) rfl l_case_sc.nd (blkOk_by (N := l_case_N) (sc := defScope (topS 18)) (by decide +kernel)) (Own.one l_case_pair) (.list (.dat (.prop TC0.cl h_T_roads G_T_roads (hr.mono (by decide)) b_T_roads rfl (tree_ins (by decide +kernel) (by decide +kernel) (by decide +kernel)) (.name (x := l_case_made) (pv 8) rfl rfl)))) (fixAt rfl) (fun _ _ _ => rfl) (fun _ _ _ _ _ => (.name (x := l_case_pair) rfl l_case_sc.nd rfl (.inl rfl))) (fun _ _ _ _ _ => XTs.nil) (fun _ _ _ _ _ => (.snd (.name (x := l_case_pair) (pv 14) rfl rfl)))))) (.sum rfl (by rfl) z_sum (.dat (.lc (own := [("pair", 14)]) rfl l_case_sc.nd (blkOk_by (N := l_case_N) (sc := defScope (topS 18)) (by decide +kernel)) (Own.one l_case_pair) (.list (.name (x := l_case_roads) (pv 1) rfl rfl)) (fixAt rfl) (fun _ _ _ => rfl) (fun _ _ _ _ _ => (.name (x := l_case_pair) rfl l_case_sc.nd rfl (.inl rfl))) (fun _ _ _ _ _ => XTs.nil) (fun _ _ _ _ _ => (.snd (.name (x := l_case_pair) (pv 14) rfl rfl)))))) hu)) (.one (.ret .bl ⟨.inl rfl, ⟨.inr rfl, ⟨.inr rfl, ⟨.inr rfl, ⟨.inr rfl, ⟨.inr rfl, ⟨.inr rfl, ⟨.inr rfl, ⟨.inr rfl, ⟨.inr rfl, ⟨.inr rfl, ⟨.inr rfl, ⟨.inr rfl, ⟨.inr rfl, ⟨.inr rfl, trivial⟩⟩⟩⟩⟩⟩⟩⟩⟩⟩⟩⟩⟩⟩⟩)) XSs.nil)
  (.cons (Γ1 := l_case_G _ C v0)
    (.asg (x := l_case_ends) (.quad (.idx (.name (x := l_case_moved) (pv 5) rfl rfl) .int) (.idx (.name (x := l_case_moved) (pv 5) rfl rfl) .int) (.idx (.name (x := l_case_after) (pv 9) rfl rfl) .int) (.idx (.name (x := l_case_after) (pv 9) rfl rfl) .int)) l_case_sc.nd rfl (.inl rfl))
  (.cons (Γ1 := l_case_G _ C v0)
    (.ite (.not (.val (.call (.v (.v (.v .nil))) G_l_same (hr.mono (by decide)) (by rfl) g_l_same k_l_same b_l_same (.v rfl (.name (x := l_case_made) (pv 8) rfl rfl) (.v rfl (.name (x := l_case_after) (pv 9) rfl rfl) (.v rfl (.name (x := l_case_ways) (pv 3) rfl rfl) XA.nil))) (om := trivial)))) (.one (.ret .bl ⟨.inl rfl, ⟨.inr rfl, ⟨.inr rfl, ⟨.inr rfl, ⟨.inr rfl, ⟨.inr rfl, ⟨.inr rfl, ⟨.inr rfl, ⟨.inr rfl, ⟨.inr rfl, ⟨.inr rfl, ⟨.inr rfl, ⟨.inr rfl, ⟨.inr rfl, ⟨.inr rfl, trivial⟩⟩⟩⟩⟩⟩⟩⟩⟩⟩⟩⟩⟩⟩⟩)) XSs.nil)
  (.cons (Γ1 := l_case_G _ C v0)
    (.ite (.not (.val (.call (.v (.v (.v (.v (.v .nil))))) G_l_moved_steps (hr.mono (by decide)) (by rfl) g_l_moved_steps k_l_moved_steps b_l_moved_steps (.v rfl (.name (x := l_case_made) (pv 8) rfl rfl) (.v rfl (.name (x := l_case_tree) (pv 4) rfl rfl) (.v rfl (.name (x := l_case_root) (pv 7) rfl rfl) (.v rfl (.name (x := l_case_ends) (pv 10) rfl rfl) (.v rfl (.sub (.len (by rfl) z_len (.idx (.idx (.name (x := l_case_ways) (pv 3) rfl rfl) .int) .int)) .int) XA.nil))))) (om := trivial)))) (.one (.ret .bl ⟨.inl rfl, ⟨.inr rfl, ⟨.inr rfl, ⟨.inr rfl, ⟨.inr rfl, ⟨.inr rfl, ⟨.inr rfl, ⟨.inr rfl, ⟨.inr rfl, ⟨.inr rfl, ⟨.inr rfl, ⟨.inr rfl, ⟨.inr rfl, ⟨.inr rfl, ⟨.inr rfl, trivial⟩⟩⟩⟩⟩⟩⟩⟩⟩⟩⟩⟩⟩⟩⟩)) XSs.nil)
  (.cons (Γ1 := l_case_G _ C v0)
    (.ite (.ofW (.or (.ofC (.notInO G_T_contains (hr.mono (by decide)) b_T_contains h_T_contains.at_ h_T_contains.fn rfl rfl (tree_ins (by decide +kernel) (by decide +kernel) (by decide +kernel)) (.idx (.name (x := l_case_moved) (pv 5) rfl rfl) .int) (.name (x := l_case_tree) (pv 4) rfl rfl))) (.or1 (.ofC (.notInO G_T_contains (hr.mono (by decide)) b_T_contains h_T_contains.at_ h_T_contains.fn rfl rfl (tree_ins (by decide +kernel) (by decide +kernel) (by decide +kernel)) (.idx (.name (x := l_case_after) (pv 9) rfl rfl) .int) (.name (x := l_case_made) (pv 8) rfl rfl)))))) (.one (.ret .bl ⟨.inl rfl, ⟨.inr rfl, ⟨.inr rfl, ⟨.inr rfl, ⟨.inr rfl, ⟨.inr rfl, ⟨.inr rfl, ⟨.inr rfl, ⟨.inr rfl, ⟨.inr rfl, ⟨.inr rfl, ⟨.inr rfl, ⟨.inr rfl, ⟨.inr rfl, ⟨.inr rfl, trivial⟩⟩⟩⟩⟩⟩⟩⟩⟩⟩⟩⟩⟩⟩⟩)) XSs.nil)
  (.cons (Γ1 := l_case_G _ C v0)
    (.ite (.ofC (.ne (.meth (.v (.v .nil)) TC0.cl h_T_distance G_T_distance (hr.mono (by decide)) b_T_distance rfl (tree_ins (by decide +kernel) (by decide +kernel) (by decide +kernel)) (.name (x := l_case_tree) (pv 4) rfl rfl) (.v rfl (.idx (.name (x := l_case_moved) (pv 5) rfl rfl) .int) (.v rfl (.idx (.name (x := l_case_moved) (pv 5) rfl rfl) .int) XA.nil)) (om := trivial)) (.sub (.len (by rfl) z_len (.idx (.idx (.name (x := l_case_ways) (pv 3) rfl rfl) .int) .int)) .int) hu)) (.one (.ret .bl ⟨.inl rfl, ⟨.inr rfl, ⟨.inr rfl, ⟨.inr rfl, ⟨.inr rfl, ⟨.inr rfl, ⟨.inr rfl, ⟨.inr rfl, ⟨.inr rfl, ⟨.inr rfl, ⟨.inr rfl, ⟨.inr rfl, ⟨.inr rfl, ⟨.inr rfl, ⟨.inr rfl, trivial⟩⟩⟩⟩⟩⟩⟩⟩⟩⟩⟩⟩⟩⟩⟩)) XSs.nil)
  (.one (.parC (x := l_case_tree) (y := l_case_moved) rfl rfl rfl l_case_sc.nd rfl (.inr rfl) rfl (.inl rfl) (.name (x := l_case_made) (pv 8) rfl rfl) (.name (x := l_case_after) (pv 9) rfl rfl))))))))))))))
  (.one (.ret .bl ⟨.inl rfl, ⟨.inr rfl, ⟨.inr rfl, ⟨.inr rfl, ⟨.inr rfl, ⟨.inr rfl, ⟨.inr rfl, ⟨.inr rfl, ⟨.inr rfl, ⟨.inr rfl, ⟨.inr rfl, ⟨.inr rfl, ⟨.inr rfl, ⟨.inr rfl, ⟨.inr rfl, trivial⟩⟩⟩⟩⟩⟩⟩⟩⟩⟩⟩⟩⟩⟩⟩)))))))))
abbrev law_ps : List Type := [List Int]
abbrev law_ls : List Type := [Int]
abbrev law_T : List Type := [List Int, Int]
abbrev law_script : Var law_T (List Int) := .vz
abbrev law_at : Var law_T Int := .vs .vz
abbrev law_G (K : Fr) (C : Nat → Addr) (v0 : V) : RTs K law_T := ((RT.scr K, ((RT.dat K Int, ()) : RT K Int × RTs K [])) : RT K (List Int) × RTs K [Int])
abbrev law_Gr (K : Fr) (C : Nat → Addr) (v0 : V) : RTs K law_T := ((RT.dead K (List Int), ((RT.dead K Int, ()) : RT K Int × RTs K [])) : RT K (List Int) × RTs K [Int])
abbrev law_R (K : Fr) (C : Nat → Addr) : RT K Bool := RT.dat K Bool
noncomputable def law_m : MS law_T Bool := (sSeq (sFor (m1 rng (m2 imax (mC (1 : Int)) (m2 imin (m1 ilen (mV law_script)) (mC (5 : Int))))) (fun y s => law_at.set (some y) s) (sIf (m1 bnot (mCallT (bodyF (ps := l_case_ps) (ls := l_case_ls) l_case_m) (mCall (.v (.v .nil)) (bodyF (ps := l_digits_ps) (ls := l_digits_ls) l_digits_m) (aV (mV law_script) (aV (mV law_at) aNil))))) (sRet (mC false)) sSkip))
  (sRet (mC true)))
noncomputable abbrev law_fs (K : Fr) (C : Nat → Addr) : Fs K := { ps := law_ps, Γp := (((RT.scr K, ()) : RT K (List Int) × RTs K []) : RTs K law_ps), Γo := (((RT.dead K (List Int), ()) : RT K (List Int) × RTs K []) : RTs K law_ps), ρ := Bool, R := law_R K C, f := (bodyF (ps := law_ps) (ls := law_ls) law_m) }
theorem law_sc : FnScope ["script", "at"] ["script"] (defScope (topS 19)) := ⟨rfl, rfl, rfl, by decide +kernel, rfl, by decide +kernel, by decide +kernel⟩
theorem law_ok {fa : Addr} {fd : FuncData} (F : Fun K "law" "law" (topS 19) fa fd) (TC0 : TC K (C 0)) {a_l_case : Addr} {d_l_case : FuncData} (G_l_case : FnOk Pr w K mg base CX0 9 a_l_case d_l_case ["digits"] (spF (l_case_fs K C))) (b_l_case : Binds K d_l_case ["digits"] []) (g_l_case : mg "_law_case" = some (.ref a_l_case)) (k_l_case : PySem.W.keepIn K (.ref a_l_case) = true) {a_l_digits : Addr} {d_l_digits : FuncData} (G_l_digits : FnOk Pr w K mg base CX0 1 a_l_digits d_l_digits ["script", "at"] (spF (l_digits_fs K C))) (b_l_digits : Binds K d_l_digits ["script", "at"] []) (g_l_digits : mg "_law_digits" = some (.ref a_l_digits)) (k_l_digits : PySem.W.keepIn K (.ref a_l_digits) = true) (z_range : mg "range" = none) (z_max : mg "max" = none) (z_min : mg "min" = none) (z_len : mg "len" = none) : FnOk Pr w K mg base CX0 10 fa fd ["script"] (spF (law_fs K C)) := by
  refine fs_ok (k := 9) F law_sc (ps := law_ps) (ls := law_ls) (m := law_m) rfl rfl fun cdv A outer s H vs E hl hr => ?_
  obtain ⟨v0, rfl⟩ := len1 hl
  have hu : (A.deeper (PyProof.Rows.envOfC "law" (defScope (topS 19)) s.heap.objs.size fa cdv)).units + 65 < cLine := by have := hr.un; omega
  refine ⟨law_G K C v0, law_Gr K C v0, law_G K C v0, ⟨fun _ _ _ _ _ _ h => h, trivial⟩, ⟨fun _ _ _ _ _ _ _ _ => trivial, trivial⟩, ?_⟩
  exact (.cons (Γ1 := law_G _ C v0)
    (.for_ (Γt := law_G _ C v0) PassesOwn.never rfl (.range1 (by rfl) z_range (.max2 rfl (by rfl) z_max .int (.min2 rfl (by rfl) z_min (.lenScr (by rfl) z_len (.name (x := law_script) (pv 0) rfl rfl)) .int))) ⟨.inl rfl, ⟨.inl rfl, trivial⟩⟩ (.name (x := law_at) rfl law_sc.nd rfl (.inl rfl)) (.one (.ite (.not (.val (.callT G_l_case (hr.mono (by decide)) (by rfl) g_l_case k_l_case b_l_case (.call (.v (.v .nil)) G_l_digits (hr.mono (by decide)) (by rfl) g_l_digits k_l_digits b_l_digits (.v rfl (.name (x := law_script) (pv 0) rfl rfl) (.v rfl (.name (x := law_at) (pv 1) rfl rfl) XA.nil)) (om := trivial))))) (.one (.ret .bl ⟨.inr rfl, ⟨.inr rfl, trivial⟩⟩)) XSs.nil)))
  (.one (.ret .bl ⟨.inr rfl, ⟨.inr rfl, trivial⟩⟩)))
end
theorem all_mk {l : PySem.W.OpenLaw} {w : World} {K : Fr} {h : Heap} {mg : Str → Option Value} {fa f0 f1 f2 f3 f4 f5 f6 f7 f8 f9 f10 f11 f12 f13 f14 f15 f16 f17 f18 f19 f20 f21 f22 f23 f24 f25 f26 C0 q14 : Addr} (X : K.In h) (G : h.Ns mainGlobals mg) (hfa : mg "law" = some (.ref fa))
    {od0 an0 od1 an1 od2 an2 od3 an3 od4 an4 od5 an5 od6 an6 od7 an7 od8 an8 od9 an9 od10 an10 od11 an11 od12 an12 od13 an13 od14 an14 od15 an15 od16 an16 od17 an17 od18 an18 od19 an19 od20 an20 od21 an21 od22 an22 od23 an23 od24 an24 od25 an25 od26 an26 : Option Addr} {sl0 sl1 sl2 sl3 sl4 sl5 sl6 sl7 sl8 sl9 sl10 sl11 sl12 sl13 sl14 sl15 sl16 sl17 sl18 sl19 sl20 sl21 sl22 sl23 sl24 sl25 sl26 : Array (Option Value)} {oc0 kV0 dc0 pm0 cd0 ct0 oc1 kV1 dc1 pm1 cd1 ct1 oc2 kV2 dc2 pm2 cd2 ct2 oc3 kV3 dc3 pm3 cd3 ct3 oc4 kV4 dc4 pm4 cd4 ct4 oc5 kV5 dc5 pm5 cd5 ct5 oc6 kV6 dc6 pm6 cd6 ct6 oc7 kV7 dc7 pm7 cd7 ct7 oc8 kV8 dc8 pm8 cd8 ct8 oc9 kV9 dc9 pm9 cd9 ct9 oc10 kV10 dc10 pm10 cd10 ct10 oc11 kV11 dc11 pm11 cd11 ct11 oc12 kV12 dc12 pm12 cd12 ct12 oc13 kV13 dc13 pm13 cd13 ct13 oc14 kV14 dc14 pm14 cd14 ct14 oc15 kV15 dc15 pm15 cd15 ct15 oc16 kV16 dc16 pm16 cd16 ct16 oc17 kV17 dc17 pm17 cd17 ct17 oc18 kV18 dc18 pm18 cd18 ct18 oc19 kV19 dc19 pm19 cd19 ct19 oc20 kV20 dc20 pm20 cd20 ct20 oc21 kV21 dc21 pm21 cd21 ct21 oc22 kV22 dc22 pm22 cd22 ct22 oc23 kV23 dc23 pm23 cd23 ct23 oc24 kV24 dc24 pm24 cd24 ct24 oc25 kV25 dc25 pm25 cd25 ct25 oc26 kV26 dc26 pm26 cd26 ct26 : Value} {rs14 : List Value}
    (a0 : PySem.W.nsIn K mainGlobals "is_integer" = some (some (.ref f0))) (l0 : K.lookup f0 = some ⟨oc0, od0, .func (PySem.W.fnOf "is_integer" "is_integer" (defArgs (topS 5)) (defBody (topS 5)) (defScope (topS 5)) .none kV0 dc0 pm0 an0 cd0 ct0), sl0⟩) (c0 : PySem.W.codeIn K cd0 "is_integer" = true) (k0 : PySem.W.keepIn K (.ref f0) = true)
    (a1 : PySem.W.nsIn K mainGlobals "is_pair" = some (some (.ref f1))) (l1 : K.lookup f1 = some ⟨oc1, od1, .func (PySem.W.fnOf "is_pair" "is_pair" (defArgs (topS 6)) (defBody (topS 6)) (defScope (topS 6)) .none kV1 dc1 pm1 an1 cd1 ct1), sl1⟩) (c1 : PySem.W.codeIn K cd1 "is_pair" = true) (k1 : PySem.W.keepIn K (.ref f1) = true)
    (a2 : PySem.W.nsIn K mainGlobals "_law_digits" = some (some (.ref f2))) (l2 : K.lookup f2 = some ⟨oc2, od2, .func (PySem.W.fnOf "_law_digits" "_law_digits" (defArgs (topS 9)) (defBody (topS 9)) (defScope (topS 9)) .none kV2 dc2 pm2 an2 cd2 ct2), sl2⟩) (c2 : PySem.W.codeIn K cd2 "_law_digits" = true) (k2 : PySem.W.keepIn K (.ref f2) = true)
    (a3 : PySem.W.nsIn K mainGlobals "_law_take" = some (some (.ref f3))) (l3 : K.lookup f3 = some ⟨oc3, od3, .func (PySem.W.fnOf "_law_take" "_law_take" (defArgs (topS 10)) (defBody (topS 10)) (defScope (topS 10)) .none kV3 dc3 pm3 an3 cd3 ct3), sl3⟩) (c3 : PySem.W.codeIn K cd3 "_law_take" = true) (k3 : PySem.W.keepIn K (.ref f3) = true)
    (a4 : PySem.W.nsIn K mainGlobals "_law_whole" = some (some (.ref f4))) (l4 : K.lookup f4 = some ⟨oc4, od4, .func (PySem.W.fnOf "_law_whole" "_law_whole" (defArgs (topS 11)) (defBody (topS 11)) (defScope (topS 11)) .none kV4 dc4 pm4 an4 cd4 ct4), sl4⟩) (c4 : PySem.W.codeIn K cd4 "_law_whole" = true) (k4 : PySem.W.keepIn K (.ref f4) = true)
    (a5 : PySem.W.nsIn K mainGlobals "_law_roads" = some (some (.ref f5))) (l5 : K.lookup f5 = some ⟨oc5, od5, .func (PySem.W.fnOf "_law_roads" "_law_roads" (defArgs (topS 12)) (defBody (topS 12)) (defScope (topS 12)) .none kV5 dc5 pm5 an5 cd5 ct5), sl5⟩) (c5 : PySem.W.codeIn K cd5 "_law_roads" = true) (k5 : PySem.W.keepIn K (.ref f5) = true)
    (a6 : PySem.W.nsIn K mainGlobals "_law_point" = some (some (.ref f6))) (l6 : K.lookup f6 = some ⟨oc6, od6, .func (PySem.W.fnOf "_law_point" "_law_point" (defArgs (topS 13)) (defBody (topS 13)) (defScope (topS 13)) .none kV6 dc6 pm6 an6 cd6 ct6), sl6⟩) (c6 : PySem.W.codeIn K cd6 "_law_point" = true) (k6 : PySem.W.keepIn K (.ref f6) = true)
    (a7 : PySem.W.nsIn K mainGlobals "_law_climb" = some (some (.ref f7))) (l7 : K.lookup f7 = some ⟨oc7, od7, .func (PySem.W.fnOf "_law_climb" "_law_climb" (defArgs (topS 14)) (defBody (topS 14)) (defScope (topS 14)) .none kV7 dc7 pm7 an7 cd7 ct7), sl7⟩) (c7 : PySem.W.codeIn K cd7 "_law_climb" = true) (k7 : PySem.W.keepIn K (.ref f7) = true)
    (a8 : PySem.W.nsIn K mainGlobals "_law_way" = some (some (.ref f8))) (l8 : K.lookup f8 = some ⟨oc8, od8, .func (PySem.W.fnOf "_law_way" "_law_way" (defArgs (topS 15)) (defBody (topS 15)) (defScope (topS 15)) .none kV8 dc8 pm8 an8 cd8 ct8), sl8⟩) (c8 : PySem.W.codeIn K cd8 "_law_way" = true) (k8 : PySem.W.keepIn K (.ref f8) = true)
    (a9 : PySem.W.nsIn K mainGlobals "_law_same" = some (some (.ref f9))) (l9 : K.lookup f9 = some ⟨oc9, od9, .func (PySem.W.fnOf "_law_same" "_law_same" (defArgs (topS 16)) (defBody (topS 16)) (defScope (topS 16)) .none kV9 dc9 pm9 an9 cd9 ct9), sl9⟩) (c9 : PySem.W.codeIn K cd9 "_law_same" = true) (k9 : PySem.W.keepIn K (.ref f9) = true)
    (a10 : PySem.W.nsIn K mainGlobals "_law_moved_steps" = some (some (.ref f10))) (l10 : K.lookup f10 = some ⟨oc10, od10, .func (PySem.W.fnOf "_law_moved_steps" "_law_moved_steps" (defArgs (topS 17)) (defBody (topS 17)) (defScope (topS 17)) .none kV10 dc10 pm10 an10 cd10 ct10), sl10⟩) (c10 : PySem.W.codeIn K cd10 "_law_moved_steps" = true) (k10 : PySem.W.keepIn K (.ref f10) = true)
    (a11 : PySem.W.nsIn K mainGlobals "_law_case" = some (some (.ref f11))) (l11 : K.lookup f11 = some ⟨oc11, od11, .func (PySem.W.fnOf "_law_case" "_law_case" (defArgs (topS 18)) (defBody (topS 18)) (defScope (topS 18)) .none kV11 dc11 pm11 an11 cd11 ct11), sl11⟩) (c11 : PySem.W.codeIn K cd11 "_law_case" = true) (k11 : PySem.W.keepIn K (.ref f11) = true)
    (a12 : PySem.W.nsIn K mainGlobals "law" = some (some (.ref f12))) (l12 : K.lookup f12 = some ⟨oc12, od12, .func (PySem.W.fnOf "law" "law" (defArgs (topS 19)) (defBody (topS 19)) (defScope (topS 19)) .none kV12 dc12 pm12 an12 cd12 ct12), sl12⟩) (c12 : PySem.W.codeIn K cd12 "law" = true) (k12 : PySem.W.keepIn K (.ref f12) = true)
    (a13 : PySem.W.findIn K (.ref C0) "__init__" = some (some (.ref f13))) (l13 : K.lookup f13 = some ⟨oc13, od13, .func (PySem.W.fnOf "__init__" "Tree.__init__" (defArgs (inClass (topS 7) 0)) (defBody (inClass (topS 7) 0)) (defScope (inClass (topS 7) 0)) .none kV13 dc13 pm13 an13 cd13 ct13), sl13⟩) (c13 : PySem.W.codeIn K cd13 "Tree.__init__" = true) (k13 : PySem.W.keepIn K (.ref f13) = true) (i13 : PySem.W.isFn K (.ref f13) = true)
    (a14 : PySem.W.findIn K (.ref C0) "roads" = some (some (.ref q14))) (pg14 : PySem.W.specialIn K (.ref q14) "__get__" = some (some (.builtin "property.__get__"))) (pt14 : PySem.W.takesIn K (.ref q14) = some true) (pr14 : PySem.W.recIn K q14 "property" = some (.ref f14 :: rs14)) (l14 : K.lookup f14 = some ⟨oc14, od14, .func (PySem.W.fnOf "roads" "Tree.roads" (defArgs (inClass (topS 7) 1)) (defBody (inClass (topS 7) 1)) (defScope (inClass (topS 7) 1)) .none kV14 dc14 pm14 an14 cd14 ct14), sl14⟩) (c14 : PySem.W.codeIn K cd14 "Tree.roads" = true) (k14 : PySem.W.keepIn K (.ref f14) = true)
    (a15 : PySem.W.findIn K (.ref C0) "__len__" = some (some (.ref f15))) (l15 : K.lookup f15 = some ⟨oc15, od15, .func (PySem.W.fnOf "__len__" "Tree.__len__" (defArgs (inClass (topS 7) 2)) (defBody (inClass (topS 7) 2)) (defScope (inClass (topS 7) 2)) .none kV15 dc15 pm15 an15 cd15 ct15), sl15⟩) (c15 : PySem.W.codeIn K cd15 "Tree.__len__" = true) (k15 : PySem.W.keepIn K (.ref f15) = true) (i15 : PySem.W.isFn K (.ref f15) = true)
    (a16 : PySem.W.findIn K (.ref C0) "__contains__" = some (some (.ref f16))) (l16 : K.lookup f16 = some ⟨oc16, od16, .func (PySem.W.fnOf "__contains__" "Tree.__contains__" (defArgs (inClass (topS 7) 4)) (defBody (inClass (topS 7) 4)) (defScope (inClass (topS 7) 4)) .none kV16 dc16 pm16 an16 cd16 ct16), sl16⟩) (c16 : PySem.W.codeIn K cd16 "Tree.__contains__" = true) (k16 : PySem.W.keepIn K (.ref f16) = true) (i16 : PySem.W.isFn K (.ref f16) = true)
    (a17 : PySem.W.findIn K (.ref C0) "height" = some (some (.ref f17))) (l17 : K.lookup f17 = some ⟨oc17, od17, .func (PySem.W.fnOf "height" "Tree.height" (defArgs (inClass (topS 7) 5)) (defBody (inClass (topS 7) 5)) (defScope (inClass (topS 7) 5)) .none kV17 dc17 pm17 an17 cd17 ct17), sl17⟩) (c17 : PySem.W.codeIn K cd17 "Tree.height" = true) (k17 : PySem.W.keepIn K (.ref f17) = true) (i17 : PySem.W.isFn K (.ref f17) = true)
    (a18 : PySem.W.findIn K (.ref C0) "junction" = some (some (.ref f18))) (l18 : K.lookup f18 = some ⟨oc18, od18, .func (PySem.W.fnOf "junction" "Tree.junction" (defArgs (inClass (topS 7) 6)) (defBody (inClass (topS 7) 6)) (defScope (inClass (topS 7) 6)) .none kV18 dc18 pm18 an18 cd18 ct18), sl18⟩) (c18 : PySem.W.codeIn K cd18 "Tree.junction" = true) (k18 : PySem.W.keepIn K (.ref f18) = true) (i18 : PySem.W.isFn K (.ref f18) = true)
    (a19 : PySem.W.findIn K (.ref C0) "distance" = some (some (.ref f19))) (l19 : K.lookup f19 = some ⟨oc19, od19, .func (PySem.W.fnOf "distance" "Tree.distance" (defArgs (inClass (topS 7) 7)) (defBody (inClass (topS 7) 7)) (defScope (inClass (topS 7) 7)) .none kV19 dc19 pm19 an19 cd19 ct19), sl19⟩) (c19 : PySem.W.codeIn K cd19 "Tree.distance" = true) (k19 : PySem.W.keepIn K (.ref f19) = true) (i19 : PySem.W.isFn K (.ref f19) = true)
    (a20 : PySem.W.findIn K (.ref C0) "on_way" = some (some (.ref f20))) (l20 : K.lookup f20 = some ⟨oc20, od20, .func (PySem.W.fnOf "on_way" "Tree.on_way" (defArgs (inClass (topS 7) 8)) (defBody (inClass (topS 7) 8)) (defScope (inClass (topS 7) 8)) .none kV20 dc20 pm20 an20 cd20 ct20), sl20⟩) (c20 : PySem.W.codeIn K cd20 "Tree.on_way" = true) (k20 : PySem.W.keepIn K (.ref f20) = true) (i20 : PySem.W.isFn K (.ref f20) = true)
    (a21 : PySem.W.findIn K (.ref C0) "raised" = some (some (.ref f21))) (l21 : K.lookup f21 = some ⟨oc21, od21, .func (PySem.W.fnOf "raised" "Tree.raised" (defArgs (inClass (topS 7) 9)) (defBody (inClass (topS 7) 9)) (defScope (inClass (topS 7) 9)) .none kV21 dc21 pm21 an21 cd21 ct21), sl21⟩) (c21 : PySem.W.codeIn K cd21 "Tree.raised" = true) (k21 : PySem.W.keepIn K (.ref f21) = true) (i21 : PySem.W.isFn K (.ref f21) = true)
    (a22 : PySem.W.findIn K (.ref C0) "towards" = some (some (.ref f22))) (l22 : K.lookup f22 = some ⟨oc22, od22, .func (PySem.W.fnOf "towards" "Tree.towards" (defArgs (inClass (topS 7) 10)) (defBody (inClass (topS 7) 10)) (defScope (inClass (topS 7) 10)) .none kV22 dc22 pm22 an22 cd22 ct22), sl22⟩) (c22 : PySem.W.codeIn K cd22 "Tree.towards" = true) (k22 : PySem.W.keepIn K (.ref f22) = true) (i22 : PySem.W.isFn K (.ref f22) = true)
    (a23 : PySem.W.findIn K (.ref C0) "linked" = some (some (.ref f23))) (l23 : K.lookup f23 = some ⟨oc23, od23, .func (PySem.W.fnOf "linked" "Tree.linked" (defArgs (inClass (topS 7) 11)) (defBody (inClass (topS 7) 11)) (defScope (inClass (topS 7) 11)) .none kV23 dc23 pm23 an23 cd23 ct23), sl23⟩) (c23 : PySem.W.codeIn K cd23 "Tree.linked" = true) (k23 : PySem.W.keepIn K (.ref f23) = true) (i23 : PySem.W.isFn K (.ref f23) = true)
    (a24 : PySem.W.findIn K (.ref C0) "numbering" = some (some (.ref f24))) (l24 : K.lookup f24 = some ⟨oc24, od24, .func (PySem.W.fnOf "numbering" "Tree.numbering" (defArgs (inClass (topS 7) 12)) (defBody (inClass (topS 7) 12)) (defScope (inClass (topS 7) 12)) .none kV24 dc24 pm24 an24 cd24 ct24), sl24⟩) (c24 : PySem.W.codeIn K cd24 "Tree.numbering" = true) (k24 : PySem.W.keepIn K (.ref f24) = true) (i24 : PySem.W.isFn K (.ref f24) = true)
    (a25 : PySem.W.findIn K (.ref C0) "hung" = some (some (.ref f25))) (l25 : K.lookup f25 = some ⟨oc25, od25, .func (PySem.W.fnOf "hung" "Tree.hung" (defArgs (inClass (topS 7) 13)) (defBody (inClass (topS 7) 13)) (defScope (inClass (topS 7) 13)) .none kV25 dc25 pm25 an25 cd25 ct25), sl25⟩) (c25 : PySem.W.codeIn K cd25 "Tree.hung" = true) (k25 : PySem.W.keepIn K (.ref f25) = true) (i25 : PySem.W.isFn K (.ref f25) = true)
    (a26 : PySem.W.findIn K (.ref C0) "hung_point" = some (some (.ref f26))) (l26 : K.lookup f26 = some ⟨oc26, od26, .func (PySem.W.fnOf "hung_point" "Tree.hung_point" (defArgs (inClass (topS 7) 14)) (defBody (inClass (topS 7) 14)) (defScope (inClass (topS 7) 14)) .none kV26 dc26 pm26 an26 cd26 ct26), sl26⟩) (c26 : PySem.W.codeIn K cd26 "Tree.hung_point" = true) (k26 : PySem.W.keepIn K (.ref f26) = true) (i26 : PySem.W.isFn K (.ref f26) = true)
    (aC : PySem.W.nsIn K mainGlobals "Tree" = some (some (.ref C0))) (pg : PySem.W.plainGet K C0 Str.empty = true) (hd : PySem.W.hasDictIn K C0 = true) (po : PySem.W.plainOver K C0 = true) (sa : PySem.W.findIn K (.ref C0) "__setattr__" = some (some (.builtin "object.__setattr__"))) (mk : PySem.W.makesIn K C0 = true) (kc : PySem.W.keepIn K (.ref C0) = true) (nP : PySem.W.findIn K (.ref C0) "parents" = some none) (nL : PySem.W.findIn K (.ref C0) "lengths" = some none) (nH : PySem.W.findIn K (.ref C0) "heights" = some none)
    (haO : PySem.W.findIn K (.ref C0) "__class__" = some (some (.builtin "object.__class__"))) (hnO : PySem.W.specialIn K (.builtin "object.__class__") "__get__" = some (some (.builtin "getset_descriptor.__get__"))) (htO : PySem.W.takesIn K (.builtin "object.__class__") = some true) (hmO : PySem.W.mroIn K C0 (.type "object") = some true) (ktO : PySem.W.mroIn K C0 (.type "tuple") = some false)
    (z0 : PySem.W.nsIn K mainGlobals "isinstance" = some none) (z1 : PySem.W.nsIn K mainGlobals "int" = some none) (z2 : PySem.W.nsIn K mainGlobals "bool" = some none) (z3 : PySem.W.nsIn K mainGlobals "tuple" = some none) (z4 : PySem.W.nsIn K mainGlobals "len" = some none) (z5 : PySem.W.nsIn K mainGlobals "range" = some none) (z6 : PySem.W.nsIn K mainGlobals "sum" = some none) (z7 : PySem.W.nsIn K mainGlobals "list" = some none) (z8 : PySem.W.nsIn K mainGlobals "max" = some none) (z9 : PySem.W.nsIn K mainGlobals "min" = some none) (z10 : PySem.W.nsIn K mainGlobals "property" = some none) (z11 : PySem.W.nsIn K mainGlobals "zip" = some none) (z12 : PySem.W.nsIn K mainGlobals "sorted" = some none) :
    ∃ fd : FuncData, (∀ (s : Shared) (v : Value), BindsTo s fd ⟨[v], []⟩ [("script", v)]) ∧ ∀ base : Heap, K.In base → base.Ns mainGlobals mg → FnOk l.prog w K mg base CX0 10 fa fd ["script"] (spF (lawFs K (bodyF (ps := law_ps) (ls := law_ls) law_m))) := by
  have e := hfa.symm.trans (PySem.W.mg_of X G a12)
  cases e
  have y_isinstance := PySem.W.mg_none_of X G z0
  have y_int := PySem.W.mg_none_of X G z1
  have y_bool := PySem.W.mg_none_of X G z2
  have y_tuple := PySem.W.mg_none_of X G z3
  have y_len := PySem.W.mg_none_of X G z4
  have y_range := PySem.W.mg_none_of X G z5
  have y_sum := PySem.W.mg_none_of X G z6
  have y_list := PySem.W.mg_none_of X G z7
  have y_max := PySem.W.mg_none_of X G z8
  have y_min := PySem.W.mg_none_of X G z9
  have y_property := PySem.W.mg_none_of X G z10
  have y_zip := PySem.W.mg_none_of X G z11
  have y_sorted := PySem.W.mg_none_of X G z12
  have F0 := fun_mk (st := (topS 5)) l0 c0 k0
  have b0 := F0.binds (ps := ["value"]) fun _ _ _ _ _ _ us hl => match us, hl with | [_], _ => rfl
  have g0 := PySem.W.mg_of X G a0
  have F1 := fun_mk (st := (topS 6)) l1 c1 k1
  have b1 := F1.binds (ps := ["value"]) fun _ _ _ _ _ _ us hl => match us, hl with | [_], _ => rfl
  have g1 := PySem.W.mg_of X G a1
  have F2 := fun_mk (st := (topS 9)) l2 c2 k2
  have b2 := F2.binds (ps := ["script", "at"]) fun _ _ _ _ _ _ us hl => match us, hl with | [_, _], _ => rfl
  have g2 := PySem.W.mg_of X G a2
  have F3 := fun_mk (st := (topS 10)) l3 c3 k3
  have b3 := F3.binds (ps := ["digits", "many"]) fun _ _ _ _ _ _ us hl => match us, hl with | [_, _], _ => rfl
  have g3 := PySem.W.mg_of X G a3
  have F4 := fun_mk (st := (topS 11)) l4 c4 k4
  have b4 := F4.binds (ps := ["found"]) fun _ _ _ _ _ _ us hl => match us, hl with | [_], _ => rfl
  have g4 := PySem.W.mg_of X G a4
  have F5 := fun_mk (st := (topS 12)) l5 c5 k5
  have b5 := F5.binds (ps := ["digits", "most", "longest"]) fun _ _ _ _ _ _ us hl => match us, hl with | [_, _, _], _ => rfl
  have g5 := PySem.W.mg_of X G a5
  have F6 := fun_mk (st := (topS 13)) l6 c6 k6
  have b6 := F6.binds (ps := ["digits", "roads"]) fun _ _ _ _ _ _ us hl => match us, hl with | [_, _], _ => rfl
  have g6 := PySem.W.mg_of X G a6
  have F7 := fun_mk (st := (topS 14)) l7 c7 k7
  have b7 := F7.binds (ps := ["roads", "point"]) fun _ _ _ _ _ _ us hl => match us, hl with | [_, _], _ => rfl
  have g7 := PySem.W.mg_of X G a7
  have F8 := fun_mk (st := (topS 15)) l8 c8 k8
  have b8 := F8.binds (ps := ["roads", "one", "other"]) fun _ _ _ _ _ _ us hl => match us, hl with | [_, _, _], _ => rfl
  have g8 := PySem.W.mg_of X G a8
  have F9 := fun_mk (st := (topS 16)) l9 c9 k9
  have b9 := F9.binds (ps := ["tree", "moved", "ways"]) fun _ _ _ _ _ _ us hl => match us, hl with | [_, _, _], _ => rfl
  have g9 := PySem.W.mg_of X G a9
  have F10 := fun_mk (st := (topS 17)) l10 c10 k10
  have b10 := F10.binds (ps := ["tree", "upper", "root", "ends", "whole"]) fun _ _ _ _ _ _ us hl => match us, hl with | [_, _, _, _, _], _ => rfl
  have g10 := PySem.W.mg_of X G a10
  have F11 := fun_mk (st := (topS 18)) l11 c11 k11
  have b11 := F11.binds (ps := ["digits"]) fun _ _ _ _ _ _ us hl => match us, hl with | [_], _ => rfl
  have g11 := PySem.W.mg_of X G a11
  have F12 := fun_mk (st := (topS 19)) l12 c12 k12
  have b12 := F12.binds (ps := ["script"]) fun _ _ _ _ _ _ us hl => match us, hl with | [_], _ => rfl
  have g12 := PySem.W.mg_of X G a12
  have F13 := fun_mk (st := (inClass (topS 7) 0)) l13 c13 k13
  have b13 := F13.binds (ps := ["self", "roads"]) fun _ _ _ _ _ _ us hl => match us, hl with | [_, _], _ => rfl
  have F14 := fun_mk (st := (inClass (topS 7) 1)) l14 c14 k14
  have b14 := F14.binds (ps := ["self"]) fun _ _ _ _ _ _ us hl => match us, hl with | [_], _ => rfl
  have F15 := fun_mk (st := (inClass (topS 7) 2)) l15 c15 k15
  have b15 := F15.binds (ps := ["self"]) fun _ _ _ _ _ _ us hl => match us, hl with | [_], _ => rfl
  have F16 := fun_mk (st := (inClass (topS 7) 4)) l16 c16 k16
  have b16 := F16.binds (ps := ["self", "point"]) fun _ _ _ _ _ _ us hl => match us, hl with | [_, _], _ => rfl
  have F17 := fun_mk (st := (inClass (topS 7) 5)) l17 c17 k17
  have b17 := F17.binds (ps := ["self", "point"]) fun _ _ _ _ _ _ us hl => match us, hl with | [_, _], _ => rfl
  have F18 := fun_mk (st := (inClass (topS 7) 6)) l18 c18 k18
  have b18 := F18.binds (ps := ["self", "one", "other"]) fun _ _ _ _ _ _ us hl => match us, hl with | [_, _, _], _ => rfl
  have F19 := fun_mk (st := (inClass (topS 7) 7)) l19 c19 k19
  have b19 := F19.binds (ps := ["self", "one", "other"]) fun _ _ _ _ _ _ us hl => match us, hl with | [_, _, _], _ => rfl
  have F20 := fun_mk (st := (inClass (topS 7) 8)) l20 c20 k20
  have b20 := F20.binds (ps := ["self", "point", "one", "other"]) fun _ _ _ _ _ _ us hl => match us, hl with | [_, _, _, _], _ => rfl
  have F21 := fun_mk (st := (inClass (topS 7) 9)) l21 c21 k21
  have b21 := F21.binds (ps := ["self", "point", "far"]) fun _ _ _ _ _ _ us hl => match us, hl with | [_, _, _], _ => rfl
  have F22 := fun_mk (st := (inClass (topS 7) 10)) l22 c22 k22
  have b22 := F22.binds (ps := ["self", "one", "other", "far"]) fun _ _ _ _ _ _ us hl => match us, hl with | [_, _, _, _], _ => rfl
  have F23 := fun_mk (st := (inClass (topS 7) 11)) l23 c23 k23
  have b23 := F23.binds (ps := ["self", "node"]) fun _ _ _ _ _ _ us hl => match us, hl with | [_, _], _ => rfl
  have F24 := fun_mk (st := (inClass (topS 7) 12)) l24 c24 k24
  have b24 := F24.binds (ps := ["self", "node"]) fun _ _ _ _ _ _ us hl => match us, hl with | [_, _], _ => rfl
  have F25 := fun_mk (st := (inClass (topS 7) 13)) l25 c25 k25
  have b25 := F25.binds (ps := ["self", "node"]) fun _ _ _ _ _ _ us hl => match us, hl with | [_, _], _ => rfl
  have F26 := fun_mk (st := (inClass (topS 7) 14)) l26 c26 k26
  have b26 := F26.binds (ps := ["self", "node", "point"]) fun _ _ _ _ _ _ us hl => match us, hl with | [_, _, _], _ => rfl
  refine ⟨PySem.W.fnOf "law" "law" (defArgs (topS 19)) (defBody (topS 19)) (defScope (topS 19)) .none kV12 dc12 pm12 an12 cd12 ct12, fun s v => .of_eq rfl, fun base _ _ => ?_⟩
  have gT := PySem.W.mg_of X G aC
  have TC0 : TC K C0 := ⟨⟨pg, hd, po, sa⟩, nP, nL, nH⟩
  have OB : ObjK K C0 := ⟨TC0.cl, haO, hnO, htO, hmO, ktO⟩
  have G0 := is_integer_ok (Pr := l.prog) (w := w) (base := base) (mg := mg) (C := fun _ => C0) F0 TC0 y_isinstance y_int y_bool
  have G2 := l_digits_ok (Pr := l.prog) (w := w) (base := base) (mg := mg) (C := fun _ => C0) F2 TC0 y_range y_len y_int
  have G3 := l_take_ok (Pr := l.prog) (w := w) (base := base) (mg := mg) (C := fun _ => C0) F3 TC0 y_int
  have G4 := l_whole_ok (Pr := l.prog) (w := w) (base := base) (mg := mg) (C := fun _ => C0) F4 TC0 y_isinstance y_int y_bool
  have G7 := l_climb_ok (Pr := l.prog) (w := w) (base := base) (mg := mg) (C := fun _ => C0) F7 TC0 y_range y_sum
  have G14 := T_roads_ok (Pr := l.prog) (w := w) (base := base) (mg := mg) (C := fun _ => C0) F14 TC0 y_property y_list y_zip
  have G15 := T_len_ok (Pr := l.prog) (w := w) (base := base) (mg := mg) (C := fun _ => C0) F15 TC0 y_len
  have G21 := T_raised_ok (Pr := l.prog) (w := w) (base := base) (mg := mg) (C := fun _ => C0) F21 TC0 
  have G23 := T_linked_ok (Pr := l.prog) (w := w) (base := base) (mg := mg) (C := fun _ => C0) F23 TC0 y_range y_len
  have G1 := is_pair_ok (Pr := l.prog) (w := w) (base := base) (mg := mg) (C := fun _ => C0) F1 TC0 G0 b0 g0 k0 y_isinstance y_tuple y_len
  have G5 := l_roads_ok (Pr := l.prog) (w := w) (base := base) (mg := mg) (C := fun _ => C0) F5 TC0 G3 b3 g3 k3 y_range
  have G6 := l_point_ok (Pr := l.prog) (w := w) (base := base) (mg := mg) (C := fun _ => C0) F6 TC0 G3 b3 g3 k3 y_len
  have G8 := l_way_ok (Pr := l.prog) (w := w) (base := base) (mg := mg) (C := fun _ => C0) F8 TC0 G7 b7 g7 k7 y_len
  have G24 := T_numbering_ok (Pr := l.prog) (w := w) (base := base) (mg := mg) (C := fun _ => C0) F24 TC0 G23 b23 ⟨a23, i23, k23⟩ y_sorted
  have G13 := T_init_ok (Pr := l.prog) (w := w) (base := base) (mg := mg) (C := fun _ => C0) F13 TC0 G1 b1 g1 k1 y_isinstance y_list y_len
  have G16 := T_contains_ok (Pr := l.prog) (w := w) (base := base) (mg := mg) (C := fun _ => C0) F16 TC0 G1 b1 g1 k1 y_len
  have G26 := T_hung_point_ok (Pr := l.prog) (w := w) (base := base) (mg := mg) (C := fun _ => C0) F26 TC0 G24 b24 ⟨a24, i24, k24⟩ 
  have G17 := T_height_ok (Pr := l.prog) (w := w) (base := base) (mg := mg) (C := fun _ => C0) F17 TC0 G16 b16 ⟨a16, i16, k16⟩ 
  have G18 := T_junction_ok (Pr := l.prog) (w := w) (base := base) (mg := mg) (C := fun _ => C0) F18 TC0 G17 b17 ⟨a17, i17, k17⟩ y_min
  have G25 := T_hung_ok (Pr := l.prog) (w := w) (base := base) (mg := mg) (C := fun _ => C0) F25 TC0 G13 b13 ⟨mk, a13, i13, kc⟩ gT G24 b24 ⟨a24, i24, k24⟩ G23 b23 ⟨a23, i23, k23⟩ y_range y_len
  have G19 := T_distance_ok (Pr := l.prog) (w := w) (base := base) (mg := mg) (C := fun _ => C0) F19 TC0 G17 b17 ⟨a17, i17, k17⟩ G18 b18 ⟨a18, i18, k18⟩ 
  have G20 := T_on_way_ok (Pr := l.prog) (w := w) (base := base) (mg := mg) (C := fun _ => C0) F20 TC0 G19 b19 ⟨a19, i19, k19⟩ 
  have G22 := T_towards_ok (Pr := l.prog) (w := w) (base := base) (mg := mg) (C := fun _ => C0) F22 TC0 G19 b19 ⟨a19, i19, k19⟩ G21 b21 ⟨a21, i21, k21⟩ G0 b0 g0 k0 G17 b17 ⟨a17, i17, k17⟩ G18 b18 ⟨a18, i18, k18⟩ 
  have G9 := l_same_ok (Pr := l.prog) (w := w) (base := base) (mg := mg) (C := fun _ => C0) F9 TC0 G19 b19 ⟨a19, i19, k19⟩ G4 b4 g4 k4 G20 b20 ⟨a20, i20, k20⟩ y_range y_len y_int
  have G10 := l_moved_steps_ok (Pr := l.prog) (w := w) (base := base) (mg := mg) (C := fun _ => C0) F10 TC0 G22 b22 ⟨a22, i22, k22⟩ G26 b26 ⟨a26, i26, k26⟩ 
  have G11 := l_case_ok (Pr := l.prog) (w := w) (base := base) (mg := mg) (C := fun _ => C0) F11 TC0 G5 b5 g5 k5 G13 b13 ⟨mk, a13, i13, kc⟩ gT G6 b6 g6 k6 G9 b9 g9 k9 G3 b3 g3 k3 G8 b8 g8 k8 G25 b25 ⟨a25, i25, k25⟩ G16 b16 ⟨a16, i16, k16⟩ G10 b10 g10 k10 G26 b26 ⟨a26, i26, k26⟩ G15 b15 ⟨a15, i15, k15⟩ G19 b19 ⟨a19, i19, k19⟩ G14 b14 ⟨a14, pg14, pt14, _, pr14⟩ OB gT y_list y_range y_sum y_len y_isinstance
  have G12 := law_ok (Pr := l.prog) (w := w) (base := base) (mg := mg) (C := fun _ => C0) F12 TC0 G11 b11 g11 k11 G2 b2 g2 k2 y_range y_max y_min y_len
  exact G12
end Lw
namespace Lw
open PySem PySem.Spec L2 Sm
set_option synthInstance.maxHeartbeats 4000000
set_option synthInstance.maxSize 1000000
noncomputable def is_integer_f (value_0 : Int) : Option Bool := some true
abbrev is_integer_val : Bool → Bool := fun w => w
abbrev is_integer_emb : Bool → Env is_integer_ps := fun w => (none, ())
theorem is_integer_sim (value_0 : Int) : Sim (is_integer_f value_0) (bodyF (ps := is_integer_ps) (ls := is_integer_ls) is_integer_m) ((some value_0, ()) : Env is_integer_ps) is_integer_val is_integer_emb := Sim.body (ps := is_integer_ps) (ls := is_integer_ls) (show SS (αs := is_integer_T) is_integer_m (ext is_integer_ls is_integer_ps ((some value_0, ()) : Env is_integer_ps)) (is_integer_f value_0) (Wf (ps := is_integer_ps) (ls := is_integer_ls) is_integer_val is_integer_emb) from (SS.of (SX.sret (SX.val (VX.and (VX.t1 (VX.v rfl) rfl) (VX.t1 (VX.t1 (VX.v rfl) rfl) rfl)) (Wf.mk (ps := is_integer_ps) (ls := is_integer_ls) (val := is_integer_val) (emb := is_integer_emb) (w := true) ⟨.inl rfl, trivial⟩)))))
noncomputable def l_digits_f (script_0 : List Int) (at_0 : Int) : Option (List Int) := (if (decide (at_0 < (script_0.length : Int))) = true then (idx script_0 at_0).bind fun x_2 => some x_2 else some (0 : Int) : Option Int).bind fun j_1 => (ipow (10 : Int) (18 : Int)).bind fun x_3 => if (decide (x_3 ≤ j_1)) = true then (ipow (10 : Int) (18 : Int)).bind fun x_4 => some ((j_1 - x_4) :: ([] : List Int)) else (imul j_1 (2 : Int)).bind fun x_5 => (imul (40129 : Int) at_0).bind fun x_6 => (imod ((x_5 + (1 : Int)) + x_6) (2147483629 : Int)).bind fun x_7 => (rng (36 : Int)).bind fun x_10 => (forM (fun (s_8 : (Int × Int)) (turn_9 : Int) => (imul s_8.1 s_8.1).bind fun x_11 => (imul (2 : Int) turn_9).bind fun x_12 => (imul s_8.1 (x_12 + (3 : Int))).bind fun x_13 => (imod (x_11 + x_13) (2147483629 : Int)).bind fun x_14 => (imul (48271 : Int) turn_9).bind fun x_15 => (imul (17 : Int) at_0).bind fun x_16 => (imod ((x_14 + x_15) + x_16) (2147483629 : Int)).bind fun x_17 => (imul s_8.2 (999983 : Int)).bind fun x_18 => (idiv x_17 (11 : Int)).bind fun x_19 => (imod x_19 (999983 : Int)).bind fun x_20 => some (x_17, (x_18 + x_20))) x_10 (x_7, (0 : Int))).bind fun s_8 => some (s_8.2 :: ([] : List Int))
abbrev l_digits_val : (List Int) → (List Int) := fun w => w
abbrev l_digits_emb : (List Int) → Env l_digits_ps := fun w => (none, none, ())
theorem l_digits_sim (script_0 : List Int) (at_0 : Int) : Sim (l_digits_f script_0 at_0) (bodyF (ps := l_digits_ps) (ls := l_digits_ls) l_digits_m) ((some script_0, some at_0, ()) : Env l_digits_ps) l_digits_val l_digits_emb := Sim.body (ps := l_digits_ps) (ls := l_digits_ls) (show SS (αs := l_digits_T) l_digits_m (ext l_digits_ls l_digits_ps ((some script_0, some at_0, ()) : Env l_digits_ps)) (l_digits_f script_0 at_0) (Wf (ps := l_digits_ps) (ls := l_digits_ls) l_digits_val l_digits_emb) from (SS.seqX (SX.asg (SX.val VX.c (SS.join (αs := l_digits_T) (fun (j_1 : Int) => ((some script_0, some at_0, some j_1, none, none, none, ()) : Env l_digits_T)) (SS.of (SX.sif (SX.val (VX.t2 (VX.v rfl) (VX.t1 (VX.v rfl) rfl) (ilt_eq _ _)) ⟨_, _, rfl, (SX.asg (SX.p2 (SX.val (VX.v rfl) (SX.val (VX.v rfl) ⟨_, rfl, fun x_2 => ⟨_, rfl, rfl, (Le.c (.inr rfl) (Le.c (.inr rfl) (Le.c (.inr rfl) (Le.c (.inl rfl) (Le.c (.inl rfl) (Le.c (.inl rfl) Le.n))))))⟩⟩)))), (SX.skip ⟨_, rfl, rfl, (Le.c (.inr rfl) (Le.c (.inr rfl) (Le.c (.inr rfl) (Le.c (.inl rfl) (Le.c (.inl rfl) (Le.c (.inl rfl) Le.n))))))⟩)⟩))) fun j_1 => (SS.seqX (SX.sif (SX.t2 (SX.val (VX.v rfl) (SX.p2 (SX.val VX.c (SX.val VX.c ⟨_, rfl, fun x_3 => ⟨_, ige_eq _ _, ⟨_, _, rfl, (SX.sret (SX.lstN 1 (by decide) (SX.t2 (SX.t2 (SX.val (VX.v rfl) (SX.p2 (SX.val VX.c (SX.val VX.c ⟨_, rfl, fun x_4 => ⟨_, rfl, (SX.val VX.c ⟨_, rfl, ⟨rfl, (Wf.mk (ps := l_digits_ps) (ls := l_digits_ls) (val := l_digits_val) (emb := l_digits_emb) (w := ((j_1 - x_4) :: ([] : List Int))) ⟨.inl rfl, ⟨.inl rfl, trivial⟩⟩)⟩⟩)⟩⟩)))))))), (SX.skip (SS.seqX (SX.asg (SX.p2 (SX.t1 (SX.t2 (SX.t2 (SX.p2 (SX.val (VX.v rfl) (SX.val VX.c ⟨_, rfl, fun x_5 => (SX.val VX.c ⟨_, rfl, (SX.p2 (SX.val VX.c (SX.val (VX.v rfl) ⟨_, rfl, fun x_6 => ⟨_, rfl, ⟨_, rfl, (SX.val VX.c ⟨_, rfl, fun x_7 => (SS.seqX (SX.asg (SX.val VX.c (SS.seq (SS.forM (αs := l_digits_T) (fun (s_8 : (Int × Int)) => ((some script_0, some at_0, some j_1, some s_8.1, some s_8.2, none, ()) : Env l_digits_T)) (SX.p1 (SX.val VX.c ⟨_, rfl, fun x_10 => ⟨_, _, _, rfl, (Le.c (.inr rfl) (Le.c (.inr rfl) (Le.c (.inr rfl) (Le.c (.inr rfl) (Le.c (.inr rfl) (Le.c (.inl rfl) Le.n)))))), fun s_8 turn_9 => (SS.of (SX.seq (SX.asg (SX.p2 (SX.t1 (SX.t2 (SX.p2 (SX.val (VX.v rfl) (SX.val (VX.v rfl) ⟨_, rfl, fun x_11 => (SX.p2 (SX.val (VX.v rfl) (SX.t2 (SX.p2 (SX.val VX.c (SX.val (VX.v rfl) ⟨_, rfl, fun x_12 => (SX.val VX.c ⟨_, rfl, ⟨_, rfl, fun x_13 => ⟨_, rfl, ⟨_, rfl, (SX.val VX.c ⟨_, rfl, fun x_14 => (SX.seq (SX.asg (SX.p2 (SX.t1 (SX.t2 (SX.t2 (SX.val (VX.v rfl) (SX.p2 (SX.val VX.c (SX.val (VX.v rfl) ⟨_, rfl, fun x_15 => ⟨_, rfl, (SX.p2 (SX.val VX.c (SX.val (VX.v rfl) ⟨_, rfl, fun x_16 => ⟨_, rfl, ⟨_, rfl, (SX.val VX.c ⟨_, rfl, fun x_17 => (SX.asg (SX.t2 (SX.p2 (SX.val (VX.v rfl) (SX.val VX.c ⟨_, rfl, fun x_18 => (SX.p2 (SX.t1 (SX.p2 (SX.val (VX.v rfl) (SX.val VX.c ⟨_, rfl, fun x_19 => ⟨_, rfl, (SX.val VX.c ⟨_, rfl, fun x_20 => ⟨_, rfl, (WM.mk (.inl rfl) (Le.c (.inr rfl) (Le.c (.inr rfl) (Le.c (.inr rfl) (Le.c (.inr rfl) (Le.c (.inr rfl) (Le.c (.inl rfl) Le.n)))))))⟩⟩)⟩⟩)))))⟩)))))⟩)⟩⟩⟩)))⟩⟩))))))))))⟩)⟩⟩⟩⟩)⟩))))))⟩))))))))), fun s_8 => (SS.of (SX.sret (SX.val (VX.lstN 1 (VX.t2 (VX.v rfl) VX.c rfl) rfl (by decide)) (Wf.mk (ps := l_digits_ps) (ls := l_digits_ls) (val := l_digits_val) (emb := l_digits_emb) (w := (s_8.2 :: ([] : List Int))) ⟨.inl rfl, ⟨.inl rfl, trivial⟩⟩))))⟩⟩)))))))⟩)⟩⟩⟩)))⟩)⟩))))))))))⟩⟩⟩))))))))))))
noncomputable def l_take_f (digits_0 : List Int) (many_0 : Int) : Option (Int × List Int) := (idx digits_0 (0 : Int)).bind fun x_1 => (imod x_1 many_0).bind fun x_2 => (idx digits_0 (0 : Int)).bind fun x_3 => (idiv x_3 many_0).bind fun x_4 => (setAt digits_0 (0 : Int) x_4).bind fun digits_5 => some (x_2, digits_5)
abbrev l_take_val : (Int × List Int) → Int := fun w => w.1
abbrev l_take_emb : (Int × List Int) → Env l_take_ps := fun w => (some w.2, none, ())
theorem l_take_sim (digits_0 : List Int) (many_0 : Int) : Sim (l_take_f digits_0 many_0) (bodyF (ps := l_take_ps) (ls := l_take_ls) l_take_m) ((some digits_0, some many_0, ()) : Env l_take_ps) l_take_val l_take_emb := Sim.body (ps := l_take_ps) (ls := l_take_ls) (show SS (αs := l_take_T) l_take_m (ext l_take_ls l_take_ps ((some digits_0, some many_0, ()) : Env l_take_ps)) (l_take_f digits_0 many_0) (Wf (ps := l_take_ps) (ls := l_take_ls) l_take_val l_take_emb) from (SS.of (SX.seq (SX.asg (SX.p2 (SX.t1 (SX.p2 (SX.val (VX.v rfl) (SX.val VX.c ⟨_, rfl, fun x_1 => ⟨_, rfl, (SX.val (VX.v rfl) ⟨_, rfl, fun x_2 => (SX.seq (SX.setI (SX.p2 (SX.t1 (SX.p2 (SX.val (VX.v rfl) (SX.val VX.c ⟨_, rfl, fun x_3 => ⟨_, rfl, (SX.val (VX.v rfl) ⟨_, rfl, fun x_4 => ⟨⟨_, rfl⟩, (SX.val VX.c ⟨_, rfl, _, rfl, fun digits_5 => (SX.sret (SX.val (VX.v rfl) (Wf.mk (ps := l_take_ps) (ls := l_take_ls) (val := l_take_val) (emb := l_take_emb) (w := (x_2, digits_5)) ⟨.inr rfl, ⟨.inl rfl, trivial⟩⟩)))⟩)⟩⟩)⟩⟩)))))))⟩)⟩⟩)))))))))
noncomputable def l_whole_f (found_0 : Int) : Option Bool := some true
abbrev l_whole_val : Bool → Bool := fun w => w
abbrev l_whole_emb : Bool → Env l_whole_ps := fun w => (none, ())
theorem l_whole_sim (found_0 : Int) : Sim (l_whole_f found_0) (bodyF (ps := l_whole_ps) (ls := l_whole_ls) l_whole_m) ((some found_0, ()) : Env l_whole_ps) l_whole_val l_whole_emb := Sim.body (ps := l_whole_ps) (ls := l_whole_ls) (show SS (αs := l_whole_T) l_whole_m (ext l_whole_ls l_whole_ps ((some found_0, ()) : Env l_whole_ps)) (l_whole_f found_0) (Wf (ps := l_whole_ps) (ls := l_whole_ls) l_whole_val l_whole_emb) from (SS.of (SX.sret (SX.val (VX.and (VX.t1 (VX.v rfl) rfl) (VX.t1 (VX.t1 (VX.v rfl) rfl) rfl)) (Wf.mk (ps := l_whole_ps) (ls := l_whole_ls) (val := l_whole_val) (emb := l_whole_emb) (w := true) ⟨.inl rfl, trivial⟩)))))
noncomputable def l_climb_f (roads_0 : List (Int × Int)) (point_0 : (Int × Int)) : Option (List (Int × Int)) := (cap roads_0 (lcO (fun (parent_3 : (Int × Int)) => some true) (fun parent_3 => some parent_3.2) roads_0)).bind fun ys_4 => (rng ((1 : Int) + ys_4.sum)).bind fun x_5 => (forL (fun (s_1 : (List (Int × Int) × Int × Int)) (step_2 : Int) => ((appO s_1.1 (s_1.2.1, s_1.2.2)).bind fun found_6 => if (decide (s_1.2.1 = (0 : Int))) = true then some (.rt found_6) else (idx roads_0 (s_1.2.1 - (1 : Int))).bind fun x_7 => if (decide ((s_1.2.2 + (1 : Int)) = x_7.2)) = true then (idx roads_0 (s_1.2.1 - (1 : Int))).bind fun x_8 => some (.nx (found_6, x_8.1, (0 : Int))) else some (.nx (found_6, s_1.2.1, (s_1.2.2 + (1 : Int)))) : Option (Lp (List (Int × Int) × Int × Int) (List (Int × Int))))) x_5 (([] : List (Int × Int)), point_0.1, point_0.2)).bind (Lp.elim (fun s_1 => some s_1.1) (fun r_9 => some r_9))
abbrev l_climb_val : (List (Int × Int)) → (List (Int × Int)) := fun w => w
abbrev l_climb_emb : (List (Int × Int)) → Env l_climb_ps := fun w => (none, none, ())
theorem l_climb_sim (roads_0 : List (Int × Int)) (point_0 : (Int × Int)) : Sim (l_climb_f roads_0 point_0) (bodyF (ps := l_climb_ps) (ls := l_climb_ls) l_climb_m) ((some roads_0, some point_0, ()) : Env l_climb_ps) l_climb_val l_climb_emb := Sim.body (ps := l_climb_ps) (ls := l_climb_ls) (show SS (αs := l_climb_T) l_climb_m (ext l_climb_ls l_climb_ps ((some roads_0, some point_0, ()) : Env l_climb_ps)) (l_climb_f roads_0 point_0) (Wf (ps := l_climb_ps) (ls := l_climb_ls) l_climb_val l_climb_emb) from (SS.seqX (SX.asgG (SX.val (VX.v rfl) (SS.seqX (SX.asg (SX.val (VX.lstN 0 VX.c rfl (by decide)) (SS.seq (SS.forL (αs := l_climb_T) (fun (s_1 : (List (Int × Int) × Int × Int)) => ((some roads_0, some point_0, some s_1.1, none, some s_1.2.1, some s_1.2.2, none, none, ()) : Env l_climb_T)) l_climb_val (fun w => ext l_climb_ls l_climb_ps (l_climb_emb w)) (SX.p1 (SX.t2 (SX.val VX.c (SX.t1 (SX.lcO (fun _ _ => own2) (SX.val (VX.v rfl) ⟨_, _, _, rfl, fun parent_3 => (SX.val VX.c ⟨rfl, rfl⟩), fun parent_3 => (SX.val (VX.v rfl) ⟨rfl, rfl⟩), fun ys_4 => ⟨_, rfl, ⟨_, rfl, ⟨_, rfl, fun x_5 => ⟨_, _, _, _, rfl, (Le.c (.inr rfl) (Le.c (.inr rfl) (Le.c (.inr rfl) (Le.c (.inl rfl) (Le.c (.inr rfl) (Le.c (.inr rfl) (Le.c (.inl rfl) (Le.c (.inl rfl) Le.n)))))))), fun s_1 step_2 => (SS.of (SX.seq (SX.app rfl (SX.val (VX.t2 (VX.v rfl) (VX.v rfl) rfl) ⟨_, rfl, _, rfl, fun found_6 => (SX.seq (SX.sif (SX.val (VX.t2 (VX.v rfl) VX.c rfl) ⟨_, _, rfl, (SX.sret (SX.val (VX.v rfl) (WL.rtI (αs := l_climb_T) (val := l_climb_val) (embR := (fun w => ext l_climb_ls l_climb_ps (l_climb_emb w))) (r := found_6) (Le.ext ⟨.inl rfl, ⟨.inl rfl, trivial⟩⟩)))), (SX.skip (SX.seq (SX.asg (SX.val (VX.t2 (VX.v rfl) VX.c rfl) (SX.sif (SX.t2 (SX.val (VX.v rfl) (SX.t1 (SX.p2 (SX.val (VX.v rfl) (SX.val (VX.t2 (VX.v rfl) VX.c rfl) ⟨_, rfl, fun x_7 => ⟨_, rfl, ⟨_, rfl, ⟨_, _, rfl, (SX.par (SX.t1 (SX.p2 (SX.val (VX.v rfl) (SX.val (VX.t2 (VX.v rfl) VX.c rfl) ⟨_, rfl, fun x_8 => ⟨_, rfl, (SX.val VX.c (WL.nxI (.inl rfl) (Le.c (.inr rfl) (Le.c (.inr rfl) (Le.c (.inr rfl) (Le.c (.inl rfl) (Le.c (.inr rfl) (Le.c (.inr rfl) (Le.c (.inl rfl) (Le.c (.inl rfl) Le.n))))))))))⟩⟩))))), (SX.skip (WL.nxI (.inl rfl) (Le.c (.inr rfl) (Le.c (.inr rfl) (Le.c (.inr rfl) (Le.c (.inl rfl) (Le.c (.inr rfl) (Le.c (.inr rfl) (Le.c (.inl rfl) (Le.c (.inl rfl) Le.n))))))))))⟩⟩⟩⟩)))))))))))⟩)))⟩)))), fun s_1 => (SS.of (SX.sret (SX.val (VX.v rfl) (Wf.mk (ps := l_climb_ps) (ls := l_climb_ls) (val := l_climb_val) (emb := l_climb_emb) (w := s_1.1) ⟨.inl rfl, ⟨.inl rfl, trivial⟩⟩)))), fun r_9 => (Wf.rt (ps := l_climb_ps) (ls := l_climb_ls) r_9)⟩⟩⟩⟩⟩)))))))))))))))
noncomputable def T_roads_f (self_0 : TreeD) : Option (List (Int × Int)) := (slcA self_0.ps (1 : Int)).bind fun x_1 => (slcA self_0.ls (1 : Int)).bind fun x_2 => some (x_1.zip x_2)
abbrev T_roads_val : (List (Int × Int)) → (List (Int × Int)) := fun w => w
abbrev T_roads_emb : (List (Int × Int)) → Env T_roads_ps := fun w => (none, ())
theorem T_roads_sim (self_0 : TreeD) : Sim (T_roads_f self_0) (bodyF (ps := T_roads_ps) (ls := T_roads_ls) T_roads_m) ((some self_0, ()) : Env T_roads_ps) T_roads_val T_roads_emb := Sim.body (ps := T_roads_ps) (ls := T_roads_ls) (show SS (αs := T_roads_T) T_roads_m (ext T_roads_ls T_roads_ps ((some self_0, ()) : Env T_roads_ps)) (T_roads_f self_0) (Wf (ps := T_roads_ps) (ls := T_roads_ls) T_roads_val T_roads_emb) from (SS.of (SX.sret (SX.t2 (SX.p2 (SX.val (VX.t1 (VX.v rfl) rfl) (SX.val VX.c ⟨_, rfl, fun x_1 => (SX.p2 (SX.val (VX.t1 (VX.v rfl) rfl) (SX.val VX.c ⟨_, rfl, fun x_2 => ⟨_, rfl, (Wf.mk (ps := T_roads_ps) (ls := T_roads_ls) (val := T_roads_val) (emb := T_roads_emb) (w := (x_1.zip x_2)) ⟨.inl rfl, trivial⟩)⟩⟩)))⟩)))))))
noncomputable def T_len_f (self_0 : TreeD) : Option Int := some (self_0.ps.length : Int)
abbrev T_len_val : Int → Int := fun w => w
abbrev T_len_emb : Int → Env T_len_ps := fun w => (none, ())
theorem T_len_sim (self_0 : TreeD) : Sim (T_len_f self_0) (bodyF (ps := T_len_ps) (ls := T_len_ls) T_len_m) ((some self_0, ()) : Env T_len_ps) T_len_val T_len_emb := Sim.body (ps := T_len_ps) (ls := T_len_ls) (show SS (αs := T_len_T) T_len_m (ext T_len_ls T_len_ps ((some self_0, ()) : Env T_len_ps)) (T_len_f self_0) (Wf (ps := T_len_ps) (ls := T_len_ls) T_len_val T_len_emb) from (SS.of (SX.sret (SX.val (VX.t1 (VX.t1 (VX.v rfl) rfl) rfl) (Wf.mk (ps := T_len_ps) (ls := T_len_ls) (val := T_len_val) (emb := T_len_emb) (w := (self_0.ps.length : Int)) ⟨.inl rfl, trivial⟩)))))
noncomputable def T_raised_f (self_0 : TreeD) (point_0 : (Int × Int)) (far_0 : Int) : Option (Int × Int) := (whL (fun (s_1 : (Int × Int × Int)) => (if (decide ((0 : Int) < s_1.2.1)) = true then (idx self_0.ls s_1.2.1).bind fun x_2 => some (decide (x_2 ≤ (s_1.2.2 + s_1.1))) else some false).bind fun b_3 => some b_3) (fun s_1 => ((idx self_0.ls s_1.2.1).bind fun x_4 => (idx self_0.ps s_1.2.1).bind fun x_5 => some (.nx ((s_1.1 - (x_4 - s_1.2.2)), x_5, (0 : Int))) : Option (Lp (Int × Int × Int) (Int × Int)))) (far_0, point_0.1, point_0.2)).bind (Lp.elim (fun s_1 => some (s_1.2.1, (s_1.2.2 + s_1.1))) (fun r_6 => some r_6))
abbrev T_raised_val : (Int × Int) → (Int × Int) := fun w => w
abbrev T_raised_emb : (Int × Int) → Env T_raised_ps := fun w => (none, none, none, ())
theorem T_raised_sim (self_0 : TreeD) (point_0 : (Int × Int)) (far_0 : Int) : Sim (T_raised_f self_0 point_0 far_0) (bodyF (ps := T_raised_ps) (ls := T_raised_ls) T_raised_m) ((some self_0, some point_0, some far_0, ()) : Env T_raised_ps) T_raised_val T_raised_emb := Sim.body (ps := T_raised_ps) (ls := T_raised_ls) (show SS (αs := T_raised_T) T_raised_m (ext T_raised_ls T_raised_ps ((some self_0, some point_0, some far_0, ()) : Env T_raised_ps)) (T_raised_f self_0 point_0 far_0) (Wf (ps := T_raised_ps) (ls := T_raised_ls) T_raised_val T_raised_emb) from (SS.seqX (SX.asgG (SX.val (VX.v rfl) (SS.seq (SS.whL (αs := T_raised_T) (fun (s_1 : (Int × Int × Int)) => ((some self_0, some point_0, some s_1.1, some s_1.2.1, some s_1.2.2, ()) : Env T_raised_T)) T_raised_val (fun w => ext T_raised_ls T_raised_ps (T_raised_emb w)) (Le.c (.inr rfl) (Le.c (.inr rfl) (Le.c (.inr rfl) (Le.c (.inr rfl) (Le.c (.inr rfl) Le.n))))) (fun s_1 => (SX.and (SX.val (VX.t2 (VX.v rfl) VX.c (igt_eq _ _)) ⟨_, _, rfl, (SX.t2 (SX.val (VX.t2 (VX.v rfl) (VX.v rfl) rfl) (SX.p2 (SX.val (VX.t1 (VX.v rfl) rfl) (SX.val (VX.v rfl) ⟨_, rfl, fun x_2 => ⟨_, ige_eq _ _, ⟨rfl, rfl⟩⟩⟩))))), fun b_3 => ⟨rfl, rfl⟩⟩))) (fun s_1 => (SS.of (SX.seq (SX.asg (SX.t2 (SX.val (VX.v rfl) (SX.t2 (SX.p2 (SX.val (VX.t1 (VX.v rfl) rfl) (SX.val (VX.v rfl) ⟨_, rfl, fun x_4 => (SX.val (VX.v rfl) ⟨_, rfl, ⟨_, rfl, (SX.par (SX.p2 (SX.val (VX.t1 (VX.v rfl) rfl) (SX.val (VX.v rfl) ⟨_, rfl, fun x_5 => (SX.val VX.c (WL.nxI (.inl rfl) (Le.c (.inr rfl) (Le.c (.inr rfl) (Le.c (.inr rfl) (Le.c (.inr rfl) (Le.c (.inr rfl) Le.n)))))))⟩))))⟩⟩)⟩)))))))))) (fun s_1 => (SS.of (SX.sret (SX.val (VX.t2 (VX.v rfl) (VX.t2 (VX.v rfl) (VX.v rfl) rfl) rfl) (Wf.mk (ps := T_raised_ps) (ls := T_raised_ls) (val := T_raised_val) (emb := T_raised_emb) (w := (s_1.2.1, (s_1.2.2 + s_1.1))) ⟨.inl rfl, ⟨.inl rfl, ⟨.inl rfl, trivial⟩⟩⟩))))) (fun r_6 => (Wf.rt (ps := T_raised_ps) (ls := T_raised_ls) r_6))))))))
noncomputable def T_linked_f (self_0 : TreeD) (node_0 : Int) : Option (List Int) := (rng2 (1 : Int) (self_0.ps.length : Int)).bind fun x_1 => (cap x_1 (lcO (fun (mate_2 : Int) => (idx self_0.ps mate_2).bind fun x_3 => some (decide (x_3 = node_0))) (fun mate_2 => some mate_2) x_1)).bind fun ys_4 => if (decide ((0 : Int) < node_0)) = true then (idx self_0.ps node_0).bind fun x_5 => (catl (x_5 :: ([] : List Int)) ys_4).bind fun x_6 => some x_6 else some ys_4
abbrev T_linked_val : (List Int) → (List Int) := fun w => w
abbrev T_linked_emb : (List Int) → Env T_linked_ps := fun w => (none, none, ())
theorem T_linked_sim (self_0 : TreeD) (node_0 : Int) : Sim (T_linked_f self_0 node_0) (bodyF (ps := T_linked_ps) (ls := T_linked_ls) T_linked_m) ((some self_0, some node_0, ()) : Env T_linked_ps) T_linked_val T_linked_emb := Sim.body (ps := T_linked_ps) (ls := T_linked_ls) (show SS (αs := T_linked_T) T_linked_m (ext T_linked_ls T_linked_ps ((some self_0, some node_0, ()) : Env T_linked_ps)) (T_linked_f self_0 node_0) (Wf (ps := T_linked_ps) (ls := T_linked_ls) T_linked_val T_linked_emb) from (SS.of (SX.seq (SX.asg (SX.lcO (fun _ _ => own1) (SX.p2 (SX.val VX.c (SX.val (VX.t1 (VX.t1 (VX.v rfl) rfl) rfl) ⟨_, rfl, fun x_1 => ⟨_, _, _, rfl, fun mate_2 => (SX.t2 (SX.p2 (SX.val (VX.t1 (VX.v rfl) rfl) (SX.val (VX.v rfl) ⟨_, rfl, fun x_3 => (SX.val (VX.v rfl) ⟨_, rfl, ⟨rfl, rfl⟩⟩)⟩)))), fun mate_2 => (SX.val (VX.v rfl) ⟨rfl, rfl⟩), fun ys_4 => (SX.sret (SX.iteE (SX.val (VX.t2 (VX.v rfl) VX.c (igt_eq _ _)) ⟨_, _, rfl, (SX.p2 (SX.lstN 1 (by decide) (SX.t2 (SX.p2 (SX.val (VX.t1 (VX.v rfl) rfl) (SX.val (VX.v rfl) ⟨_, rfl, fun x_5 => (SX.val VX.c ⟨_, rfl, ⟨rfl, (SX.val (VX.v rfl) ⟨_, rfl, fun x_6 => (Wf.mk (ps := T_linked_ps) (ls := T_linked_ls) (val := T_linked_val) (emb := T_linked_emb) (w := x_6) ⟨.inl rfl, ⟨.inl rfl, trivial⟩⟩)⟩)⟩⟩)⟩)))))), (SX.take rfl (Wf.mk (ps := T_linked_ps) (ls := T_linked_ls) (val := T_linked_val) (emb := T_linked_emb) (w := ys_4) ⟨.inl rfl, ⟨.inl rfl, trivial⟩⟩))⟩)))⟩⟩))))))))
noncomputable def is_pair_f (value_0 : (Int × Int)) : Option Bool := (is_integer_f value_0.1).bind fun y_1 => (if y_1 = true then (is_integer_f value_0.2).bind fun y_2 => some y_2 else some false).bind fun b_3 => some b_3
abbrev is_pair_val : Bool → Bool := fun w => w
abbrev is_pair_emb : Bool → Env is_pair_ps := fun w => (none, ())
theorem is_pair_sim (value_0 : (Int × Int)) : Sim (is_pair_f value_0) (bodyF (ps := is_pair_ps) (ls := is_pair_ls) is_pair_m) ((some value_0, ()) : Env is_pair_ps) is_pair_val is_pair_emb := Sim.body (ps := is_pair_ps) (ls := is_pair_ls) (show SS (αs := is_pair_T) is_pair_m (ext is_pair_ls is_pair_ps ((some value_0, ()) : Env is_pair_ps)) (is_pair_f value_0) (Wf (ps := is_pair_ps) (ls := is_pair_ls) is_pair_val is_pair_emb) from (SS.of (SX.sret (SX.andT (SX.val (VX.t1 (VX.v rfl) rfl) ⟨rfl, (SX.andT (SX.val (VX.t2 (VX.t1 (VX.v rfl) rfl) VX.c rfl) ⟨rfl, (SX.and (SX.call (SX.aV (SX.val (VX.t1 (VX.v rfl) rfl) (SX.aNil ⟨_, _, _, _, rfl, (is_integer_sim _), fun _ => (Full.v Full.nil), fun y_1 => ⟨_, _, rfl, (SX.call (SX.aV (SX.val (VX.t1 (VX.v rfl) rfl) (SX.aNil ⟨_, _, _, _, rfl, (is_integer_sim _), fun _ => (Full.v Full.nil), fun y_2 => ⟨rfl, rfl⟩⟩)))), fun b_3 => (Wf.mk (ps := is_pair_ps) (ls := is_pair_ls) (val := is_pair_val) (emb := is_pair_emb) (w := b_3) ⟨.inl rfl, trivial⟩)⟩⟩)))))⟩))⟩)))))
noncomputable def l_roads_f (digits_0 : List Int) (most_0 : Int) (longest_0 : Int) : Option ((List (Int × Int)) × List Int) := (l_take_f digits_0 most_0).bind fun w_3 => (rng2 (1 : Int) ((1 : Int) + w_3.1)).bind fun x_4 => (forM (fun (s_1 : (List Int × List (Int × Int))) (node_2 : Int) => (l_take_f s_1.1 node_2).bind fun w_5 => (l_take_f w_5.2 longest_0).bind fun w_6 => (appO s_1.2 (w_5.1, ((1 : Int) + w_6.1))).bind fun roads_7 => some (w_6.2, roads_7)) x_4 (w_3.2, ([] : List (Int × Int)))).bind fun s_1 => some (s_1.2, s_1.1)
abbrev l_roads_val : ((List (Int × Int)) × List Int) → (List (Int × Int)) := fun w => w.1
abbrev l_roads_emb : ((List (Int × Int)) × List Int) → Env l_roads_ps := fun w => (some w.2, none, none, ())
theorem l_roads_sim (digits_0 : List Int) (most_0 : Int) (longest_0 : Int) : Sim (l_roads_f digits_0 most_0 longest_0) (bodyF (ps := l_roads_ps) (ls := l_roads_ls) l_roads_m) ((some digits_0, some most_0, some longest_0, ()) : Env l_roads_ps) l_roads_val l_roads_emb := Sim.body (ps := l_roads_ps) (ls := l_roads_ls) (show SS (αs := l_roads_T) l_roads_m (ext l_roads_ls l_roads_ps ((some digits_0, some most_0, some longest_0, ()) : Env l_roads_ps)) (l_roads_f digits_0 most_0 longest_0) (Wf (ps := l_roads_ps) (ls := l_roads_ls) l_roads_val l_roads_emb) from (SS.seqX (SX.asg (SX.val (VX.lstN 0 VX.c rfl (by decide)) (SS.seq (SS.forM (αs := l_roads_T) (fun (s_1 : (List Int × List (Int × Int))) => ((some s_1.1, some most_0, some longest_0, some s_1.2, none, ()) : Env l_roads_T)) (SX.p2 (SX.val VX.c (SX.t2 (SX.val VX.c (SX.call (SX.aM rfl (SX.aV (SX.val (VX.v rfl) (SX.aNil ⟨_, rfl, ⟨_, _, _, _, rfl, (l_take_sim _ _), fun _ => (Full.m rfl (Full.v Full.nil)), fun w_3 => ⟨_, rfl, ⟨_, rfl, fun x_4 => ⟨_, _, _, rfl, (Le.c (.inr rfl) (Le.c (.inr rfl) (Le.c (.inr rfl) (Le.c (.inr rfl) (Le.c (.inl rfl) Le.n))))), fun s_1 node_2 => (SS.of (SX.app rfl (SX.t2 (SX.call (SX.aM rfl (SX.aV (SX.val (VX.v rfl) (SX.aNil ⟨_, rfl, ⟨_, _, _, _, rfl, (l_take_sim _ _), fun _ => (Full.m rfl (Full.v Full.nil)), fun w_5 => (SX.t2 (SX.val VX.c (SX.call (SX.aM rfl (SX.aV (SX.val (VX.v rfl) (SX.aNil ⟨_, rfl, ⟨_, _, _, _, rfl, (l_take_sim _ _), fun _ => (Full.m rfl (Full.v Full.nil)), fun w_6 => ⟨_, rfl, ⟨_, rfl, ⟨_, rfl, _, rfl, fun roads_7 => (WM.mk (.inl rfl) (Le.c (.inr rfl) (Le.c (.inr rfl) (Le.c (.inr rfl) (Le.c (.inr rfl) (Le.c (.inl rfl) Le.n))))))⟩⟩⟩⟩⟩)))))))⟩⟩)))))))), fun s_1 => (SS.of (SX.sret (SX.val (VX.v rfl) (Wf.mk (ps := l_roads_ps) (ls := l_roads_ls) (val := l_roads_val) (emb := l_roads_emb) (w := (s_1.2, s_1.1)) ⟨.inr rfl, ⟨.inl rfl, ⟨.inl rfl, trivial⟩⟩⟩))))⟩⟩⟩⟩⟩)))))))))))))))
noncomputable def l_point_f (digits_0 : List Int) (roads_0 : List (Int × Int)) : Option ((Int × Int) × List Int) := (l_take_f digits_0 ((roads_0.length : Int) + (1 : Int))).bind fun w_1 => if (decide (w_1.1 = (0 : Int))) = true then if true = true then some ((w_1.1, (0 : Int)), w_1.2) else (idx roads_0 (w_1.1 - (1 : Int))).bind fun x_2 => (l_take_f w_1.2 x_2.2).bind fun w_3 => some ((w_1.1, w_3.1), w_3.2) else (l_take_f w_1.2 (3 : Int)).bind fun w_4 => if (decide (w_4.1 = (0 : Int))) = true then some ((w_1.1, (0 : Int)), w_4.2) else (idx roads_0 (w_1.1 - (1 : Int))).bind fun x_5 => (l_take_f w_4.2 x_5.2).bind fun w_6 => some ((w_1.1, w_6.1), w_6.2)
abbrev l_point_val : ((Int × Int) × List Int) → (Int × Int) := fun w => w.1
abbrev l_point_emb : ((Int × Int) × List Int) → Env l_point_ps := fun w => (some w.2, none, ())
theorem l_point_sim (digits_0 : List Int) (roads_0 : List (Int × Int)) : Sim (l_point_f digits_0 roads_0) (bodyF (ps := l_point_ps) (ls := l_point_ls) l_point_m) ((some digits_0, some roads_0, ()) : Env l_point_ps) l_point_val l_point_emb := Sim.body (ps := l_point_ps) (ls := l_point_ls) (show SS (αs := l_point_T) l_point_m (ext l_point_ls l_point_ps ((some digits_0, some roads_0, ()) : Env l_point_ps)) (l_point_f digits_0 roads_0) (Wf (ps := l_point_ps) (ls := l_point_ls) l_point_val l_point_emb) from (SS.of (SX.seq (SX.asg (SX.call (SX.aM rfl (SX.aV (SX.val (VX.t2 (VX.t1 (VX.v rfl) rfl) VX.c rfl) (SX.aNil ⟨_, rfl, ⟨_, _, _, _, rfl, (l_take_sim _ _), fun _ => (Full.m rfl (Full.v Full.nil)), fun w_1 => (SX.seq (SX.sif (SX.orE (SX.val (VX.t2 (VX.v rfl) VX.c rfl) ⟨_, _, rfl, ⟨_, _, rfl, (SX.sret (SX.val (VX.t2 (VX.v rfl) VX.c rfl) (Wf.mk (ps := l_point_ps) (ls := l_point_ls) (val := l_point_val) (emb := l_point_emb) (w := ((w_1.1, (0 : Int)), w_1.2)) ⟨.inr rfl, ⟨.inl rfl, trivial⟩⟩))), (SX.skip (SX.sret (SX.t2 (SX.val (VX.v rfl) (SX.call (SX.aM rfl (SX.aV (SX.t1 (SX.p2 (SX.val (VX.v rfl) (SX.val (VX.t2 (VX.v rfl) VX.c rfl) ⟨_, rfl, fun x_2 => ⟨_, rfl, (SX.aNil ⟨_, rfl, ⟨_, _, _, _, rfl, (l_take_sim _ _), fun _ => (Full.m rfl (Full.v Full.nil)), fun w_3 => ⟨_, rfl, (Wf.mk (ps := l_point_ps) (ls := l_point_ls) (val := l_point_val) (emb := l_point_emb) (w := ((w_1.1, w_3.1), w_3.2)) ⟨.inr rfl, ⟨.inl rfl, trivial⟩⟩)⟩⟩⟩)⟩⟩)))))))))))⟩, (SX.t2 (SX.call (SX.aM rfl (SX.aV (SX.val VX.c (SX.aNil ⟨_, rfl, ⟨_, _, _, _, rfl, (l_take_sim _ _), fun _ => (Full.m rfl (Full.v Full.nil)), fun w_4 => (SX.val VX.c ⟨_, rfl, ⟨_, _, rfl, (SX.sret (SX.val (VX.t2 (VX.v rfl) VX.c rfl) (Wf.mk (ps := l_point_ps) (ls := l_point_ls) (val := l_point_val) (emb := l_point_emb) (w := ((w_1.1, (0 : Int)), w_4.2)) ⟨.inr rfl, ⟨.inl rfl, trivial⟩⟩))), (SX.skip (SX.sret (SX.t2 (SX.val (VX.v rfl) (SX.call (SX.aM rfl (SX.aV (SX.t1 (SX.p2 (SX.val (VX.v rfl) (SX.val (VX.t2 (VX.v rfl) VX.c rfl) ⟨_, rfl, fun x_5 => ⟨_, rfl, (SX.aNil ⟨_, rfl, ⟨_, _, _, _, rfl, (l_take_sim _ _), fun _ => (Full.m rfl (Full.v Full.nil)), fun w_6 => ⟨_, rfl, (Wf.mk (ps := l_point_ps) (ls := l_point_ls) (val := l_point_val) (emb := l_point_emb) (w := ((w_1.1, w_6.1), w_6.2)) ⟨.inr rfl, ⟨.inl rfl, trivial⟩⟩)⟩⟩⟩)⟩⟩)))))))))))⟩⟩)⟩⟩))))))⟩))))⟩⟩)))))))))
noncomputable def l_way_f (roads_0 : List (Int × Int)) (one_0 : (Int × Int)) (other_0 : (Int × Int)) : Option (List (Int × Int)) := (l_climb_f roads_0 one_0).bind fun y_1 => (l_climb_f roads_0 other_0).bind fun y_2 => (whL (fun (s_3 : (List (Int × Int) × List (Int × Int))) => (if (decide ((1 : Int) < (s_3.1.length : Int))) = true then (if (decide ((1 : Int) < (s_3.2.length : Int))) = true then (idx s_3.1 (-(2 : Int))).bind fun x_4 => (idx s_3.2 (-(2 : Int))).bind fun x_5 => some (decide (x_4 = x_5)) else some false).bind fun b_6 => some b_6 else some false).bind fun b_7 => some b_7) (fun s_3 => ((popO s_3.1).bind fun y_10 => (popO s_3.2).bind fun y_11 => some (.nx (s_3.1.dropLast, s_3.2.dropLast)) : Option (Lp (List (Int × Int) × List (Int × Int)) (List (Int × Int))))) (y_1, y_2)).bind (Lp.elim (fun s_3 => (slcB s_3.2 (-(1 : Int))).bind fun x_8 => (catl s_3.1 x_8.reverse).bind fun x_9 => some x_9) (fun r_12 => some r_12))
abbrev l_way_val : (List (Int × Int)) → (List (Int × Int)) := fun w => w
abbrev l_way_emb : (List (Int × Int)) → Env l_way_ps := fun w => (none, none, none, ())
theorem l_way_sim (roads_0 : List (Int × Int)) (one_0 : (Int × Int)) (other_0 : (Int × Int)) : Sim (l_way_f roads_0 one_0 other_0) (bodyF (ps := l_way_ps) (ls := l_way_ls) l_way_m) ((some roads_0, some one_0, some other_0, ()) : Env l_way_ps) l_way_val l_way_emb := Sim.body (ps := l_way_ps) (ls := l_way_ls) (show SS (αs := l_way_T) l_way_m (ext l_way_ls l_way_ps ((some roads_0, some one_0, some other_0, ()) : Env l_way_ps)) (l_way_f roads_0 one_0 other_0) (Wf (ps := l_way_ps) (ls := l_way_ls) l_way_val l_way_emb) from (SS.seqX (SX.par (SX.call (SX.aV (SX.val (VX.v rfl) (SX.aV (SX.val (VX.v rfl) (SX.aNil ⟨_, _, _, _, rfl, (l_climb_sim _ _), fun _ => (Full.v (Full.v Full.nil)), fun y_1 => (SX.call (SX.aV (SX.val (VX.v rfl) (SX.aV (SX.val (VX.v rfl) (SX.aNil ⟨_, _, _, _, rfl, (l_climb_sim _ _), fun _ => (Full.v (Full.v Full.nil)), fun y_2 => (SS.seq (SS.whL (αs := l_way_T) (fun (s_3 : (List (Int × Int) × List (Int × Int))) => ((some roads_0, some one_0, some other_0, some s_3.1, some s_3.2, ()) : Env l_way_T)) l_way_val (fun w => ext l_way_ls l_way_ps (l_way_emb w)) (Le.c (.inr rfl) (Le.c (.inr rfl) (Le.c (.inr rfl) (Le.c (.inr rfl) (Le.c (.inr rfl) Le.n))))) (fun s_3 => (SX.and (SX.val (VX.t2 (VX.t1 (VX.v rfl) rfl) VX.c (igt_eq _ _)) ⟨_, _, rfl, (SX.and (SX.val (VX.t2 (VX.t1 (VX.v rfl) rfl) VX.c (igt_eq _ _)) ⟨_, _, rfl, (SX.t2 (SX.p2 (SX.val (VX.v rfl) (SX.val (VX.t1 VX.c rfl) ⟨_, rfl, fun x_4 => (SX.p2 (SX.val (VX.v rfl) (SX.val (VX.t1 VX.c rfl) ⟨_, rfl, fun x_5 => ⟨_, rfl, ⟨rfl, rfl⟩⟩⟩)))⟩)))), fun b_6 => ⟨rfl, rfl⟩⟩)), fun b_7 => ⟨rfl, rfl⟩⟩))) (fun s_3 => (SS.of (SX.seq (SX.drop (SX.pop rfl ⟨_, rfl, fun y_10 => (SX.drop (SX.pop rfl ⟨_, rfl, fun y_11 => (WL.nxI (.inl rfl) (Le.c (.inr rfl) (Le.c (.inr rfl) (Le.c (.inr rfl) (Le.c (.inr rfl) (Le.c (.inr rfl) Le.n))))))⟩))⟩))))) (fun s_3 => (SS.of (SX.sret (SX.p2 (SX.val (VX.v rfl) (SX.t1 (SX.p2 (SX.val (VX.v rfl) (SX.val (VX.t1 VX.c rfl) ⟨_, rfl, fun x_8 => ⟨_, rfl, ⟨_, rfl, fun x_9 => (Wf.mk (ps := l_way_ps) (ls := l_way_ls) (val := l_way_val) (emb := l_way_emb) (w := x_9) ⟨.inl rfl, ⟨.inl rfl, ⟨.inl rfl, trivial⟩⟩⟩)⟩⟩⟩))))))))) (fun r_12 => (Wf.rt (ps := l_way_ps) (ls := l_way_ls) r_12))))⟩))))))⟩)))))))))
noncomputable def T_numbering_f (self_0 : TreeD) (node_0 : Int) : Option (List Int) := (whL (fun (s_1 : (List Int × List Int)) => some (!decide (s_1.2 = ([] : List Int)))) (fun s_1 => ((forM (fun (s_2 : List Int) (upper_3 : Int) => (T_linked_f self_0 upper_3).bind fun y_6 => (cap y_6 (lcO (fun (mate_7 : Int) => some (!memB mate_7 s_1.1)) (fun mate_7 => some mate_7) y_6)).bind fun ys_8 => (extO s_2 ys_8).bind fun below_9 => some below_9) s_1.2 ([] : List Int)).bind fun s_2 => (sortI s_2).bind fun x_4 => (extO s_1.1 x_4).bind fun order_5 => some (.nx (order_5, x_4)) : Option (Lp (List Int × List Int) (List Int)))) ((node_0 :: ([] : List Int)), (node_0 :: ([] : List Int)))).bind (Lp.elim (fun s_1 => some s_1.1) (fun r_10 => some r_10))
abbrev T_numbering_val : (List Int) → (List Int) := fun w => w
abbrev T_numbering_emb : (List Int) → Env T_numbering_ps := fun w => (none, none, ())
theorem T_numbering_sim (self_0 : TreeD) (node_0 : Int) : Sim (T_numbering_f self_0 node_0) (bodyF (ps := T_numbering_ps) (ls := T_numbering_ls) T_numbering_m) ((some self_0, some node_0, ()) : Env T_numbering_ps) T_numbering_val T_numbering_emb := Sim.body (ps := T_numbering_ps) (ls := T_numbering_ls) (show SS (αs := T_numbering_T) T_numbering_m (ext T_numbering_ls T_numbering_ps ((some self_0, some node_0, ()) : Env T_numbering_ps)) (T_numbering_f self_0 node_0) (Wf (ps := T_numbering_ps) (ls := T_numbering_ls) T_numbering_val T_numbering_emb) from (SS.seqX (SX.asg (SX.val (VX.lstN 1 (VX.t2 (VX.v rfl) VX.c rfl) rfl (by decide)) (SS.seqX (SX.asg (SX.val (VX.lstN 1 (VX.t2 (VX.v rfl) VX.c rfl) rfl (by decide)) (SS.seq (SS.whL (αs := T_numbering_T) (fun (s_1 : (List Int × List Int)) => ((some self_0, some node_0, some s_1.1, some s_1.2, none, none, none, ()) : Env T_numbering_T)) T_numbering_val (fun w => ext T_numbering_ls T_numbering_ps (T_numbering_emb w)) (Le.c (.inr rfl) (Le.c (.inr rfl) (Le.c (.inr rfl) (Le.c (.inr rfl) (Le.c (.inl rfl) (Le.c (.inl rfl) (Le.c (.inl rfl) Le.n))))))) (fun s_1 => (SX.val (VX.t2 (VX.v rfl) (VX.lstN 0 VX.c rfl (by decide)) rfl) ⟨rfl, rfl⟩)) (fun s_1 => (SS.seqX (SX.asg (SX.val (VX.lstN 0 VX.c rfl (by decide)) (SS.seq (SS.forM (αs := T_numbering_T) (fun (s_2 : List Int) => ((some self_0, some node_0, some s_1.1, some s_1.2, some s_2, none, none, ()) : Env T_numbering_T)) (SX.val (VX.v rfl) ⟨_, _, _, rfl, (Le.c (.inr rfl) (Le.c (.inr rfl) (Le.c (.inr rfl) (Le.c (.inr rfl) (Le.c (.inr rfl) (Le.c (.inl rfl) (Le.c (.inl rfl) Le.n))))))), fun s_2 upper_3 => (SS.of (SX.ext rfl (SX.lcO (fun _ _ => own1) (SX.call (SX.aV (SX.val (VX.v rfl) (SX.aV (SX.val (VX.v rfl) (SX.aNil ⟨_, _, _, _, rfl, (T_linked_sim _ _), fun _ => (Full.v (Full.v Full.nil)), fun y_6 => ⟨_, _, _, rfl, fun mate_7 => (SX.val (VX.t2 (VX.v rfl) (VX.v rfl) rfl) ⟨rfl, rfl⟩), fun mate_7 => (SX.val (VX.v rfl) ⟨rfl, rfl⟩), fun ys_8 => ⟨_, rfl, _, rfl, fun below_9 => (WM.mk (.inl rfl) (Le.c (.inr rfl) (Le.c (.inr rfl) (Le.c (.inr rfl) (Le.c (.inr rfl) (Le.c (.inr rfl) (Le.c (.inl rfl) (Le.c (.inl rfl) Le.n))))))))⟩⟩⟩))))))))), fun s_2 => (SS.of (SX.seq (SX.asg (SX.p1 (SX.val (VX.v rfl) ⟨_, rfl, fun x_4 => (SX.ext rfl (SX.val (VX.v rfl) ⟨_, rfl, _, rfl, fun order_5 => (WL.nxI (.inl rfl) (Le.c (.inr rfl) (Le.c (.inr rfl) (Le.c (.inr rfl) (Le.c (.inr rfl) (Le.c (.inl rfl) (Le.c (.inl rfl) (Le.c (.inl rfl) Le.n))))))))⟩))⟩)))))⟩))))))) (fun s_1 => (SS.of (SX.sret (SX.val (VX.v rfl) (Wf.mk (ps := T_numbering_ps) (ls := T_numbering_ls) (val := T_numbering_val) (emb := T_numbering_emb) (w := s_1.1) ⟨.inl rfl, ⟨.inl rfl, trivial⟩⟩))))) (fun r_10 => (Wf.rt (ps := T_numbering_ps) (ls := T_numbering_ls) r_10)))))))))))
noncomputable def T_init_f (roads_0 : List (Int × Int)) : Option TreeD := (forM (fun (s_1 : TreeD) (road_2 : (Int × Int)) => (is_pair_f road_2).bind fun y_3 => if (!y_3) = true then none else (some ((!((decide ((0 : Int) ≤ road_2.1)) && (decide (road_2.1 < (s_1.ps.length : Int))))) || (decide (road_2.2 < (1 : Int))))).bind fun x_4 => if x_4 = true then none else (tAdd s_1 road_2.1 road_2.2).bind fun t_5 => some t_5) roads_0 (TreeD.mk [0] [1] [0])).bind fun s_1 => some s_1
abbrev T_init_val : TreeD → Unit := fun w => ()
abbrev T_init_emb : TreeD → Env T_init_ps := fun w => (some (some w), none, ())
theorem T_init_sim (roads_0 : List (Int × Int)) : Sim (T_init_f roads_0) (bodyN (ps := T_init_ps) (ls := T_init_ls) T_init_m) ((some none, some roads_0, ()) : Env T_init_ps) T_init_val T_init_emb := Sim.bodyN (ps := T_init_ps) (ls := T_init_ls) (show SS (αs := T_init_T) T_init_m (ext T_init_ls T_init_ps ((some none, some roads_0, ()) : Env T_init_ps)) (T_init_f roads_0) (WN (ps := T_init_ps) (ls := T_init_ls) T_init_emb) from (SS.seqX (SX.sifN (SX.val (VX.t1 (VX.t1 (VX.v rfl) rfl) rfl) ⟨rfl, (SX.skip (SS.seqX (SX.t0 rfl (SS.forM (αs := T_init_T) (fun (s_1 : TreeD) => ((some (some s_1), some roads_0, none, none, none, ()) : Env T_init_T)) (SX.val (VX.v rfl) ⟨_, _, _, rfl, (Le.c (.inr rfl) (Le.c (.inr rfl) (Le.c (.inl rfl) (Le.c (.inl rfl) (Le.c (.inl rfl) Le.n))))), fun s_1 road_2 => (SS.of (SX.seq (SX.sif (SX.t1 (SX.call (SX.aV (SX.val (VX.v rfl) (SX.aNil ⟨_, _, _, _, rfl, (is_pair_sim _), fun _ => (Full.v Full.nil), fun y_3 => ⟨_, rfl, ⟨_, _, rfl, SX.fail, (SX.skip (SX.seq (SX.asgG (SX.val (VX.v rfl) (SX.seq (SX.sif (SX.nm (VX.or (VX.t1 (VX.chn VX.c (VX.v rfl) (VX.lenP rfl) (ile_eq _ _) (ilt_eq _ _)) rfl) (VX.t2 (VX.v rfl) VX.c (ilt_eq _ _))) ⟨_, rfl, fun x_4 => ⟨_, _, rfl, SX.fail, (SX.skip (SX.ta rfl rfl rfl ⟨_, rfl, fun t_5 => (WM.mk (.inl rfl) (Le.c (.inr rfl) (Le.c (.inr rfl) (Le.c (.inl rfl) (Le.c (.inl rfl) (Le.c (.inl rfl) Le.n))))))⟩))⟩⟩)))))))⟩⟩⟩)))))))), fun s_1 => (WN.mk (ps := T_init_ps) (ls := T_init_ls) (emb := T_init_emb) (w := s_1) (.inr rfl) ⟨.inr rfl, ⟨.inl rfl, trivial⟩⟩)⟩)))))⟩))))
noncomputable def T_contains_f (self_0 : TreeD) (point_0 : (Int × Int)) : Option Bool := (is_pair_f point_0).bind fun y_1 => if (!y_1) = true then some false else (if ((decide ((0 : Int) ≤ point_0.1)) && (decide (point_0.1 < (self_0.ps.length : Int)))) = true then (if (decide ((0 : Int) ≤ point_0.2)) = true then (idx self_0.ls point_0.1).bind fun x_2 => some (decide (point_0.2 < x_2)) else some false).bind fun b_3 => some b_3 else some false).bind fun b_4 => some b_4
abbrev T_contains_val : Bool → Bool := fun w => w
abbrev T_contains_emb : Bool → Env T_contains_ps := fun w => (none, none, ())
theorem T_contains_sim (self_0 : TreeD) (point_0 : (Int × Int)) : Sim (T_contains_f self_0 point_0) (bodyF (ps := T_contains_ps) (ls := T_contains_ls) T_contains_m) ((some self_0, some point_0, ()) : Env T_contains_ps) T_contains_val T_contains_emb := Sim.body (ps := T_contains_ps) (ls := T_contains_ls) (show SS (αs := T_contains_T) T_contains_m (ext T_contains_ls T_contains_ps ((some self_0, some point_0, ()) : Env T_contains_ps)) (T_contains_f self_0 point_0) (Wf (ps := T_contains_ps) (ls := T_contains_ls) T_contains_val T_contains_emb) from (SS.of (SX.seq (SX.sif (SX.t1 (SX.call (SX.aV (SX.val (VX.v rfl) (SX.aNil ⟨_, _, _, _, rfl, (is_pair_sim _), fun _ => (Full.v Full.nil), fun y_1 => ⟨_, rfl, ⟨_, _, rfl, (SX.sret (SX.val VX.c (Wf.mk (ps := T_contains_ps) (ls := T_contains_ls) (val := T_contains_val) (emb := T_contains_emb) (w := false) ⟨.inl rfl, ⟨.inl rfl, trivial⟩⟩))), (SX.skip (SX.seq (SX.asgG (SX.val (VX.v rfl) (SX.sret (SX.and (SX.val (VX.chn VX.c (VX.v rfl) (VX.t1 (VX.t1 (VX.v rfl) rfl) rfl) (ile_eq _ _) (ilt_eq _ _)) ⟨_, _, rfl, (SX.chn (SX.val VX.c (SX.val (VX.v rfl) ⟨_, ile_eq _ _, _, _, rfl, (SX.p2 (SX.val (VX.t1 (VX.v rfl) rfl) (SX.val (VX.v rfl) ⟨_, rfl, fun x_2 => ⟨rfl, _, ilt_eq _ _, rfl⟩⟩))), fun b_3 => ⟨rfl, rfl⟩⟩))), fun b_4 => (Wf.mk (ps := T_contains_ps) (ls := T_contains_ls) (val := T_contains_val) (emb := T_contains_emb) (w := b_4) ⟨.inl rfl, ⟨.inl rfl, trivial⟩⟩)⟩)))))))⟩⟩⟩)))))))))
noncomputable def T_hung_point_f (self_0 : TreeD) (node_0 : Int) (point_0 : (Int × Int)) : Option (Int × Int) := (T_numbering_f self_0 node_0).bind fun y_1 => if (decide (point_0.2 = (0 : Int))) = true then (indexOf y_1 point_0.1).bind fun x_2 => some (x_2, (0 : Int)) else (indexOf y_1 point_0.1).bind fun x_3 => (idx self_0.ps point_0.1).bind fun x_4 => (indexOf y_1 x_4).bind fun x_5 => if (decide (x_5 < x_3)) = true then some (x_3, point_0.2) else (idx self_0.ls point_0.1).bind fun x_6 => some (x_5, (x_6 - point_0.2))
abbrev T_hung_point_val : (Int × Int) → (Int × Int) := fun w => w
abbrev T_hung_point_emb : (Int × Int) → Env T_hung_point_ps := fun w => (none, none, none, ())
theorem T_hung_point_sim (self_0 : TreeD) (node_0 : Int) (point_0 : (Int × Int)) : Sim (T_hung_point_f self_0 node_0 point_0) (bodyF (ps := T_hung_point_ps) (ls := T_hung_point_ls) T_hung_point_m) ((some self_0, some node_0, some point_0, ()) : Env T_hung_point_ps) T_hung_point_val T_hung_point_emb := Sim.body (ps := T_hung_point_ps) (ls := T_hung_point_ls) (show SS (αs := T_hung_point_T) T_hung_point_m (ext T_hung_point_ls T_hung_point_ps ((some self_0, some node_0, some point_0, ()) : Env T_hung_point_ps)) (T_hung_point_f self_0 node_0 point_0) (Wf (ps := T_hung_point_ps) (ls := T_hung_point_ls) T_hung_point_val T_hung_point_emb) from (SS.of (SX.seq (SX.asg (SX.call (SX.aV (SX.val (VX.v rfl) (SX.aV (SX.val (VX.v rfl) (SX.aNil ⟨_, _, _, _, rfl, (T_numbering_sim _ _), fun _ => (Full.v (Full.v Full.nil)), fun y_1 => (SX.seq (SX.asgG (SX.val (VX.v rfl) (SX.seq (SX.sif (SX.val (VX.t2 (VX.v rfl) VX.c rfl) ⟨_, _, rfl, (SX.sret (SX.t2 (SX.p2 (SX.val (VX.v rfl) (SX.val (VX.v rfl) ⟨_, rfl, fun x_2 => (SX.val VX.c ⟨_, rfl, (Wf.mk (ps := T_hung_point_ps) (ls := T_hung_point_ls) (val := T_hung_point_val) (emb := T_hung_point_emb) (w := (x_2, (0 : Int))) ⟨.inl rfl, ⟨.inl rfl, ⟨.inl rfl, trivial⟩⟩⟩)⟩)⟩))))), (SX.skip (SX.seq (SX.par (SX.p2 (SX.val (VX.v rfl) (SX.val (VX.v rfl) ⟨_, rfl, fun x_3 => (SX.p2 (SX.val (VX.v rfl) (SX.p2 (SX.val (VX.t1 (VX.v rfl) rfl) (SX.val (VX.v rfl) ⟨_, rfl, fun x_4 => ⟨_, rfl, fun x_5 => (SX.seq (SX.sif (SX.val (VX.t2 (VX.v rfl) (VX.v rfl) (ilt_eq _ _)) ⟨_, _, rfl, (SX.sret (SX.val (VX.t2 (VX.v rfl) (VX.v rfl) rfl) (Wf.mk (ps := T_hung_point_ps) (ls := T_hung_point_ls) (val := T_hung_point_val) (emb := T_hung_point_emb) (w := (x_3, point_0.2)) ⟨.inl rfl, ⟨.inl rfl, ⟨.inl rfl, trivial⟩⟩⟩))), (SX.skip (SX.sret (SX.t2 (SX.val (VX.v rfl) (SX.t2 (SX.p2 (SX.val (VX.t1 (VX.v rfl) rfl) (SX.val (VX.v rfl) ⟨_, rfl, fun x_6 => (SX.val (VX.v rfl) ⟨_, rfl, ⟨_, rfl, (Wf.mk (ps := T_hung_point_ps) (ls := T_hung_point_ls) (val := T_hung_point_val) (emb := T_hung_point_emb) (w := (x_5, (x_6 - point_0.2))) ⟨.inl rfl, ⟨.inl rfl, ⟨.inl rfl, trivial⟩⟩⟩)⟩⟩)⟩))))))))⟩)))⟩⟩)))))⟩))))))⟩))))))⟩))))))))))
noncomputable def T_height_f (self_0 : TreeD) (point_0 : (Int × Int)) : Option Int := (T_contains_f self_0 point_0).bind fun b_1 => if (!b_1) = true then none else (idx self_0.hs point_0.1).bind fun x_2 => some (x_2 - point_0.2)
abbrev T_height_val : Int → Int := fun w => w
abbrev T_height_emb : Int → Env T_height_ps := fun w => (none, none, ())
theorem T_height_sim (self_0 : TreeD) (point_0 : (Int × Int)) : Sim (T_height_f self_0 point_0) (bodyF (ps := T_height_ps) (ls := T_height_ls) T_height_m) ((some self_0, some point_0, ()) : Env T_height_ps) T_height_val T_height_emb := Sim.body (ps := T_height_ps) (ls := T_height_ls) (show SS (αs := T_height_T) T_height_m (ext T_height_ls T_height_ps ((some self_0, some point_0, ()) : Env T_height_ps)) (T_height_f self_0 point_0) (Wf (ps := T_height_ps) (ls := T_height_ls) T_height_val T_height_emb) from (SS.of (SX.seq (SX.sif (SX.isin (SX.val (VX.v rfl) (SX.val (VX.v rfl) ⟨_, _, _, _, rfl, (T_contains_sim _ _), fun b_1 => ⟨_, _, rfl, SX.fail, (SX.skip (SX.sret (SX.t2 (SX.p2 (SX.val (VX.t1 (VX.v rfl) rfl) (SX.val (VX.t1 (VX.v rfl) rfl) ⟨_, rfl, fun x_2 => (SX.val (VX.t1 (VX.v rfl) rfl) ⟨_, rfl, (Wf.mk (ps := T_height_ps) (ls := T_height_ls) (val := T_height_val) (emb := T_height_emb) (w := (x_2 - point_0.2)) ⟨.inl rfl, ⟨.inl rfl, trivial⟩⟩)⟩)⟩))))))⟩⟩)))))))
noncomputable def T_junction_f (self_0 : TreeD) (one_0 : (Int × Int)) (other_0 : (Int × Int)) : Option Int := (T_height_f self_0 one_0).bind fun y_1 => (T_height_f self_0 other_0).bind fun y_2 => (whL (fun (s_3 : (Int × Int)) => some (!decide (s_3.1 = s_3.2))) (fun s_3 => (if (decide (s_3.2 < s_3.1)) = true then (idx self_0.ps s_3.1).bind fun x_5 => some (.nx (x_5, s_3.2)) else (idx self_0.ps s_3.2).bind fun x_6 => some (.nx (s_3.1, x_6)) : Option (Lp (Int × Int) Int))) (one_0.1, other_0.1)).bind (Lp.elim (fun s_3 => (idx self_0.hs s_3.1).bind fun x_4 => some (if x_4 < (if y_2 < y_1 then y_2 else y_1) then x_4 else (if y_2 < y_1 then y_2 else y_1))) (fun r_7 => some r_7))
abbrev T_junction_val : Int → Int := fun w => w
abbrev T_junction_emb : Int → Env T_junction_ps := fun w => (none, none, none, ())
theorem T_junction_sim (self_0 : TreeD) (one_0 : (Int × Int)) (other_0 : (Int × Int)) : Sim (T_junction_f self_0 one_0 other_0) (bodyF (ps := T_junction_ps) (ls := T_junction_ls) T_junction_m) ((some self_0, some one_0, some other_0, ()) : Env T_junction_ps) T_junction_val T_junction_emb := Sim.body (ps := T_junction_ps) (ls := T_junction_ls) (show SS (αs := T_junction_T) T_junction_m (ext T_junction_ls T_junction_ps ((some self_0, some one_0, some other_0, ()) : Env T_junction_ps)) (T_junction_f self_0 one_0 other_0) (Wf (ps := T_junction_ps) (ls := T_junction_ls) T_junction_val T_junction_emb) from (SS.seqX (SX.asg (SX.t2 (SX.call (SX.aV (SX.val (VX.v rfl) (SX.aV (SX.val (VX.v rfl) (SX.aNil ⟨_, _, _, _, rfl, (T_height_sim _ _), fun _ => (Full.v (Full.v Full.nil)), fun y_1 => (SX.call (SX.aV (SX.val (VX.v rfl) (SX.aV (SX.val (VX.v rfl) (SX.aNil ⟨_, _, _, _, rfl, (T_height_sim _ _), fun _ => (Full.v (Full.v Full.nil)), fun y_2 => ⟨_, rfl, (SS.seqX (SX.par (SX.val (VX.t1 (VX.v rfl) rfl) (SX.val (VX.t1 (VX.v rfl) rfl) (SS.seq (SS.whL (αs := T_junction_T) (fun (s_3 : (Int × Int)) => ((some self_0, some one_0, some other_0, some (if y_2 < y_1 then y_2 else y_1), some s_3.1, some s_3.2, ()) : Env T_junction_T)) T_junction_val (fun w => ext T_junction_ls T_junction_ps (T_junction_emb w)) (Le.c (.inr rfl) (Le.c (.inr rfl) (Le.c (.inr rfl) (Le.c (.inr rfl) (Le.c (.inr rfl) (Le.c (.inr rfl) Le.n)))))) (fun s_3 => (SX.val (VX.t2 (VX.v rfl) (VX.v rfl) rfl) ⟨rfl, rfl⟩)) (fun s_3 => (SS.of (SX.sif (SX.val (VX.t2 (VX.v rfl) (VX.v rfl) (igt_eq _ _)) ⟨_, _, rfl, (SX.asg (SX.p2 (SX.val (VX.t1 (VX.v rfl) rfl) (SX.val (VX.v rfl) ⟨_, rfl, fun x_5 => (WL.nxI (.inl rfl) (Le.c (.inr rfl) (Le.c (.inr rfl) (Le.c (.inr rfl) (Le.c (.inr rfl) (Le.c (.inr rfl) (Le.c (.inr rfl) Le.n)))))))⟩)))), (SX.asg (SX.p2 (SX.val (VX.t1 (VX.v rfl) rfl) (SX.val (VX.v rfl) ⟨_, rfl, fun x_6 => (WL.nxI (.inl rfl) (Le.c (.inr rfl) (Le.c (.inr rfl) (Le.c (.inr rfl) (Le.c (.inr rfl) (Le.c (.inr rfl) (Le.c (.inr rfl) Le.n)))))))⟩))))⟩)))) (fun s_3 => (SS.of (SX.sret (SX.t2 (SX.val (VX.v rfl) (SX.p2 (SX.val (VX.t1 (VX.v rfl) rfl) (SX.val (VX.v rfl) ⟨_, rfl, fun x_4 => ⟨_, rfl, (Wf.mk (ps := T_junction_ps) (ls := T_junction_ls) (val := T_junction_val) (emb := T_junction_emb) (w := (if x_4 < (if y_2 < y_1 then y_2 else y_1) then x_4 else (if y_2 < y_1 then y_2 else y_1))) ⟨.inl rfl, ⟨.inl rfl, ⟨.inl rfl, trivial⟩⟩⟩)⟩⟩)))))))) (fun r_7 => (Wf.rt (ps := T_junction_ps) (ls := T_junction_ls) r_7))))))))⟩⟩))))))⟩))))))))))
noncomputable def T_hung_f (self_0 : TreeD) (node_0 : Int) : Option TreeD := (T_numbering_f self_0 node_0).bind fun y_1 => (rng2 (1 : Int) (y_1.length : Int)).bind fun x_4 => (forM (fun (s_2 : List (Int × Int)) (place_3 : Int) => (rng place_3).bind fun x_6 => (cap x_6 (lcO (fun (k_7 : Int) => (idx y_1 k_7).bind fun x_8 => (idx y_1 place_3).bind fun x_9 => (T_linked_f self_0 x_9).bind fun y_10 => some (memB x_8 y_10)) (fun k_7 => some k_7) x_6)).bind fun ys_11 => (idx ys_11 (0 : Int)).bind fun x_12 => (idx y_1 x_12).bind fun x_13 => (idx y_1 place_3).bind fun x_14 => (if (decide ((0 : Int) < x_14)) = true then (idx self_0.ps x_14).bind fun x_15 => some (decide (x_15 = x_13)) else some false).bind fun b_16 => (if b_16 = true then some x_14 else some x_13).bind fun x_17 => (idx ys_11 (0 : Int)).bind fun x_18 => (idx self_0.ls x_17).bind fun x_19 => (appO s_2 (x_18, x_19)).bind fun roads_20 => some roads_20) x_4 ([] : List (Int × Int))).bind fun s_2 => (T_init_f s_2).bind fun t_5 => some t_5
abbrev T_hung_val : TreeD → TreeD := fun w => w
abbrev T_hung_emb : TreeD → Env T_hung_ps := fun w => (none, none, ())
theorem T_hung_sim (self_0 : TreeD) (node_0 : Int) : Sim (T_hung_f self_0 node_0) (bodyF (ps := T_hung_ps) (ls := T_hung_ls) T_hung_m) ((some self_0, some node_0, ()) : Env T_hung_ps) T_hung_val T_hung_emb := Sim.body (ps := T_hung_ps) (ls := T_hung_ls) (show SS (αs := T_hung_T) T_hung_m (ext T_hung_ls T_hung_ps ((some self_0, some node_0, ()) : Env T_hung_ps)) (T_hung_f self_0 node_0) (Wf (ps := T_hung_ps) (ls := T_hung_ls) T_hung_val T_hung_emb) from (SS.seqX (SX.asg (SX.call (SX.aV (SX.val (VX.v rfl) (SX.aV (SX.val (VX.v rfl) (SX.aNil ⟨_, _, _, _, rfl, (T_numbering_sim _ _), fun _ => (Full.v (Full.v Full.nil)), fun y_1 => (SS.seqX (SX.asg (SX.val (VX.lstN 0 VX.c rfl (by decide)) (SS.seq (SS.forM (αs := T_hung_T) (fun (s_2 : List (Int × Int)) => ((some self_0, some node_0, some y_1, some s_2, none, none, none, none, none, none, ()) : Env T_hung_T)) (SX.p2 (SX.val VX.c (SX.val (VX.t1 (VX.v rfl) rfl) ⟨_, rfl, fun x_4 => ⟨_, _, _, rfl, (Le.c (.inr rfl) (Le.c (.inr rfl) (Le.c (.inr rfl) (Le.c (.inr rfl) (Le.c (.inl rfl) (Le.c (.inl rfl) (Le.c (.inl rfl) (Le.c (.inl rfl) (Le.c (.inl rfl) (Le.c (.inl rfl) Le.n)))))))))), fun s_2 place_3 => (SS.of (SX.seq (SX.asg (SX.lcO (fun _ _ => own1) (SX.p1 (SX.val (VX.v rfl) ⟨_, rfl, fun x_6 => ⟨_, _, _, rfl, fun k_7 => (SX.t2 (SX.p2 (SX.val (VX.v rfl) (SX.val (VX.v rfl) ⟨_, rfl, fun x_8 => (SX.call (SX.aV (SX.val (VX.v rfl) (SX.aV (SX.p2 (SX.val (VX.v rfl) (SX.val (VX.v rfl) ⟨_, rfl, fun x_9 => (SX.aNil ⟨_, _, _, _, rfl, (T_linked_sim _ _), fun _ => (Full.v (Full.v Full.nil)), fun y_10 => ⟨_, rfl, ⟨rfl, rfl⟩⟩⟩)⟩)))))))⟩)))), fun k_7 => (SX.val (VX.v rfl) ⟨rfl, rfl⟩), fun ys_11 => (SX.seq (SX.asg (SX.p2 (SX.val (VX.v rfl) (SX.p2 (SX.val (VX.v rfl) (SX.val VX.c ⟨_, rfl, fun x_12 => ⟨_, rfl, fun x_13 => (SX.seq (SX.asg (SX.p2 (SX.val (VX.v rfl) (SX.val (VX.v rfl) ⟨_, rfl, fun x_14 => (SX.seq (SX.asg (SX.ite (SX.and (SX.val (VX.t2 (VX.v rfl) VX.c (igt_eq _ _)) ⟨_, _, rfl, (SX.t2 (SX.p2 (SX.val (VX.t1 (VX.v rfl) rfl) (SX.val (VX.v rfl) ⟨_, rfl, fun x_15 => (SX.val (VX.v rfl) ⟨_, rfl, ⟨rfl, rfl⟩⟩)⟩)))), fun b_16 => ⟨_, _, _, rfl, (SX.val (VX.v rfl) ⟨rfl, rfl⟩), (SX.val (VX.v rfl) ⟨rfl, rfl⟩), fun x_17 => (SX.app rfl (SX.t2 (SX.p2 (SX.val (VX.v rfl) (SX.val VX.c ⟨_, rfl, fun x_18 => (SX.p2 (SX.val (VX.t1 (VX.v rfl) rfl) (SX.val (VX.v rfl) ⟨_, rfl, fun x_19 => ⟨_, rfl, ⟨_, rfl, _, rfl, fun roads_20 => (WM.mk (.inl rfl) (Le.c (.inr rfl) (Le.c (.inr rfl) (Le.c (.inr rfl) (Le.c (.inr rfl) (Le.c (.inl rfl) (Le.c (.inl rfl) (Le.c (.inl rfl) (Le.c (.inl rfl) (Le.c (.inl rfl) (Le.c (.inl rfl) Le.n)))))))))))⟩⟩⟩)))⟩)))))⟩⟩)))))⟩)))))⟩⟩)))))))⟩⟩)))))), fun s_2 => (SS.of (SX.sret (SX.t1 (SX.make (SX.aV (SX.val (VX.v rfl) (SX.aNil ⟨_, _, _, _, _, rfl, (T_init_sim _), fun _ => rfl, fun t_5 => ⟨_, rfl, (Wf.mk (ps := T_hung_ps) (ls := T_hung_ls) (val := T_hung_val) (emb := T_hung_emb) (w := t_5) ⟨.inl rfl, ⟨.inl rfl, trivial⟩⟩)⟩⟩)))))))⟩⟩))))))))⟩)))))))))
noncomputable def T_distance_f (self_0 : TreeD) (one_0 : (Int × Int)) (other_0 : (Int × Int)) : Option Int := (T_height_f self_0 one_0).bind fun y_1 => (T_height_f self_0 other_0).bind fun y_2 => (T_junction_f self_0 one_0 other_0).bind fun y_3 => (imul (2 : Int) y_3).bind fun x_4 => some ((y_1 + y_2) - x_4)
abbrev T_distance_val : Int → Int := fun w => w
abbrev T_distance_emb : Int → Env T_distance_ps := fun w => (none, none, none, ())
theorem T_distance_sim (self_0 : TreeD) (one_0 : (Int × Int)) (other_0 : (Int × Int)) : Sim (T_distance_f self_0 one_0 other_0) (bodyF (ps := T_distance_ps) (ls := T_distance_ls) T_distance_m) ((some self_0, some one_0, some other_0, ()) : Env T_distance_ps) T_distance_val T_distance_emb := Sim.body (ps := T_distance_ps) (ls := T_distance_ls) (show SS (αs := T_distance_T) T_distance_m (ext T_distance_ls T_distance_ps ((some self_0, some one_0, some other_0, ()) : Env T_distance_ps)) (T_distance_f self_0 one_0 other_0) (Wf (ps := T_distance_ps) (ls := T_distance_ls) T_distance_val T_distance_emb) from (SS.of (SX.sret (SX.t2 (SX.t2 (SX.call (SX.aV (SX.val (VX.v rfl) (SX.aV (SX.val (VX.v rfl) (SX.aNil ⟨_, _, _, _, rfl, (T_height_sim _ _), fun _ => (Full.v (Full.v Full.nil)), fun y_1 => (SX.call (SX.aV (SX.val (VX.v rfl) (SX.aV (SX.val (VX.v rfl) (SX.aNil ⟨_, _, _, _, rfl, (T_height_sim _ _), fun _ => (Full.v (Full.v Full.nil)), fun y_2 => ⟨_, rfl, (SX.p2 (SX.val VX.c (SX.call (SX.aV (SX.val (VX.v rfl) (SX.aV (SX.val (VX.v rfl) (SX.aV (SX.val (VX.v rfl) (SX.aNil ⟨_, _, _, _, rfl, (T_junction_sim _ _ _), fun _ => (Full.v (Full.v (Full.v Full.nil))), fun y_3 => ⟨_, rfl, fun x_4 => ⟨_, rfl, (Wf.mk (ps := T_distance_ps) (ls := T_distance_ls) (val := T_distance_val) (emb := T_distance_emb) (w := ((y_1 + y_2) - x_4)) ⟨.inl rfl, ⟨.inl rfl, ⟨.inl rfl, trivial⟩⟩⟩)⟩⟩⟩))))))))))⟩⟩))))))⟩)))))))))))
noncomputable def T_on_way_f (self_0 : TreeD) (point_0 : (Int × Int)) (one_0 : (Int × Int)) (other_0 : (Int × Int)) : Option Bool := (T_distance_f self_0 one_0 point_0).bind fun y_1 => (T_distance_f self_0 point_0 other_0).bind fun y_2 => (T_distance_f self_0 one_0 other_0).bind fun y_3 => some (decide ((y_1 + y_2) = y_3))
abbrev T_on_way_val : Bool → Bool := fun w => w
abbrev T_on_way_emb : Bool → Env T_on_way_ps := fun w => (none, none, none, none, ())
theorem T_on_way_sim (self_0 : TreeD) (point_0 : (Int × Int)) (one_0 : (Int × Int)) (other_0 : (Int × Int)) : Sim (T_on_way_f self_0 point_0 one_0 other_0) (bodyF (ps := T_on_way_ps) (ls := T_on_way_ls) T_on_way_m) ((some self_0, some point_0, some one_0, some other_0, ()) : Env T_on_way_ps) T_on_way_val T_on_way_emb := Sim.body (ps := T_on_way_ps) (ls := T_on_way_ls) (show SS (αs := T_on_way_T) T_on_way_m (ext T_on_way_ls T_on_way_ps ((some self_0, some point_0, some one_0, some other_0, ()) : Env T_on_way_ps)) (T_on_way_f self_0 point_0 one_0 other_0) (Wf (ps := T_on_way_ps) (ls := T_on_way_ls) T_on_way_val T_on_way_emb) from (SS.of (SX.sret (SX.t2 (SX.t2 (SX.call (SX.aV (SX.val (VX.v rfl) (SX.aV (SX.val (VX.v rfl) (SX.aV (SX.val (VX.v rfl) (SX.aNil ⟨_, _, _, _, rfl, (T_distance_sim _ _ _), fun _ => (Full.v (Full.v (Full.v Full.nil))), fun y_1 => (SX.call (SX.aV (SX.val (VX.v rfl) (SX.aV (SX.val (VX.v rfl) (SX.aV (SX.val (VX.v rfl) (SX.aNil ⟨_, _, _, _, rfl, (T_distance_sim _ _ _), fun _ => (Full.v (Full.v (Full.v Full.nil))), fun y_2 => ⟨_, rfl, (SX.call (SX.aV (SX.val (VX.v rfl) (SX.aV (SX.val (VX.v rfl) (SX.aV (SX.val (VX.v rfl) (SX.aNil ⟨_, _, _, _, rfl, (T_distance_sim _ _ _), fun _ => (Full.v (Full.v (Full.v Full.nil))), fun y_3 => ⟨_, rfl, (Wf.mk (ps := T_on_way_ps) (ls := T_on_way_ls) (val := T_on_way_val) (emb := T_on_way_emb) (w := (decide ((y_1 + y_2) = y_3))) ⟨.inl rfl, ⟨.inl rfl, ⟨.inl rfl, ⟨.inl rfl, trivial⟩⟩⟩⟩)⟩⟩))))))))⟩⟩))))))))⟩)))))))))))))
noncomputable def T_towards_f (self_0 : TreeD) (one_0 : (Int × Int)) (other_0 : (Int × Int)) (far_0 : Int) : Option (Int × Int) := (T_distance_f self_0 one_0 other_0).bind fun y_1 => (is_integer_f far_0).bind fun y_2 => (if (!y_2) = true then some true else some (!((decide ((0 : Int) ≤ far_0)) && (decide (far_0 ≤ y_1))))).bind fun b_3 => if b_3 = true then none else (T_height_f self_0 one_0).bind fun y_4 => (T_junction_f self_0 one_0 other_0).bind fun y_5 => if (decide (far_0 ≤ (y_4 - y_5))) = true then (T_raised_f self_0 one_0 far_0).bind fun y_6 => some y_6 else (T_raised_f self_0 other_0 (y_1 - far_0)).bind fun y_7 => some y_7
abbrev T_towards_val : (Int × Int) → (Int × Int) := fun w => w
abbrev T_towards_emb : (Int × Int) → Env T_towards_ps := fun w => (none, none, none, none, ())
theorem T_towards_sim (self_0 : TreeD) (one_0 : (Int × Int)) (other_0 : (Int × Int)) (far_0 : Int) : Sim (T_towards_f self_0 one_0 other_0 far_0) (bodyF (ps := T_towards_ps) (ls := T_towards_ls) T_towards_m) ((some self_0, some one_0, some other_0, some far_0, ()) : Env T_towards_ps) T_towards_val T_towards_emb := Sim.body (ps := T_towards_ps) (ls := T_towards_ls) (show SS (αs := T_towards_T) T_towards_m (ext T_towards_ls T_towards_ps ((some self_0, some one_0, some other_0, some far_0, ()) : Env T_towards_ps)) (T_towards_f self_0 one_0 other_0 far_0) (Wf (ps := T_towards_ps) (ls := T_towards_ls) T_towards_val T_towards_emb) from (SS.of (SX.seq (SX.asg (SX.call (SX.aV (SX.val (VX.v rfl) (SX.aV (SX.val (VX.v rfl) (SX.aV (SX.val (VX.v rfl) (SX.aNil ⟨_, _, _, _, rfl, (T_distance_sim _ _ _), fun _ => (Full.v (Full.v (Full.v Full.nil))), fun y_1 => (SX.seq (SX.sif (SX.or (SX.t1 (SX.call (SX.aV (SX.val (VX.v rfl) (SX.aNil ⟨_, _, _, _, rfl, (is_integer_sim _), fun _ => (Full.v Full.nil), fun y_2 => ⟨_, rfl, ⟨_, _, rfl, (SX.val (VX.t1 (VX.chn VX.c (VX.v rfl) (VX.v rfl) (ile_eq _ _) (ile_eq _ _)) rfl) ⟨rfl, rfl⟩), fun b_3 => ⟨_, _, rfl, SX.fail, (SX.skip (SX.seq (SX.sif (SX.t2 (SX.val (VX.v rfl) (SX.t2 (SX.call (SX.aV (SX.val (VX.v rfl) (SX.aV (SX.val (VX.v rfl) (SX.aNil ⟨_, _, _, _, rfl, (T_height_sim _ _), fun _ => (Full.v (Full.v Full.nil)), fun y_4 => (SX.call (SX.aV (SX.val (VX.v rfl) (SX.aV (SX.val (VX.v rfl) (SX.aV (SX.val (VX.v rfl) (SX.aNil ⟨_, _, _, _, rfl, (T_junction_sim _ _ _), fun _ => (Full.v (Full.v (Full.v Full.nil))), fun y_5 => ⟨_, rfl, ⟨_, ile_eq _ _, ⟨_, _, rfl, (SX.sret (SX.call (SX.aV (SX.val (VX.v rfl) (SX.aV (SX.val (VX.v rfl) (SX.aV (SX.val (VX.v rfl) (SX.aNil ⟨_, _, _, _, rfl, (T_raised_sim _ _ _), fun _ => (Full.v (Full.v (Full.v Full.nil))), fun y_6 => (Wf.mk (ps := T_towards_ps) (ls := T_towards_ls) (val := T_towards_val) (emb := T_towards_emb) (w := y_6) ⟨.inl rfl, ⟨.inl rfl, ⟨.inl rfl, ⟨.inl rfl, trivial⟩⟩⟩⟩)⟩))))))))), (SX.skip (SX.sret (SX.call (SX.aV (SX.val (VX.v rfl) (SX.aV (SX.val (VX.v rfl) (SX.aV (SX.val (VX.t2 (VX.v rfl) (VX.v rfl) rfl) (SX.aNil ⟨_, _, _, _, rfl, (T_raised_sim _ _ _), fun _ => (Full.v (Full.v (Full.v Full.nil))), fun y_7 => (Wf.mk (ps := T_towards_ps) (ls := T_towards_ls) (val := T_towards_val) (emb := T_towards_emb) (w := y_7) ⟨.inl rfl, ⟨.inl rfl, ⟨.inl rfl, ⟨.inl rfl, trivial⟩⟩⟩⟩)⟩))))))))))⟩⟩⟩⟩))))))))⟩))))))))))))⟩⟩⟩⟩))))))))⟩))))))))))))
noncomputable def l_same_f (tree_0 : TreeD) (moved_0 : List (Int × Int)) (ways_0 : List (List (List (Int × Int)))) : Option Bool := (rng (6 : Int)).bind fun x_3 => (forL (fun (s_1 : Unit) (one_2 : Int) => ((rng (6 : Int)).bind fun x_28 => (forL (fun (s_26 : Unit) (other_27 : Int) => ((idx ways_0 one_2).bind fun x_29 => (idx x_29 other_27).bind fun x_30 => (idx moved_0 one_2).bind fun x_31 => (idx moved_0 other_27).bind fun x_32 => (T_distance_f tree_0 x_31 x_32).bind fun y_33 => (l_whole_f y_33).bind fun y_34 => (if (!y_34) = true then some true else (ofRawN (Enc.enc ((x_30.length : Int) - (1 : Int)))).bind fun x_35 => (if (!decide (y_33 = x_35)) = true then some true else (idx moved_0 one_2).bind fun x_36 => (idx moved_0 other_27).bind fun x_37 => (ofRawN (Enc.enc ((x_30.length : Int) - (1 : Int)))).bind fun x_38 => some (!decide ((decide (x_36 = x_37)) = (decide (x_38 = (0 : Int)))))).bind fun b_39 => some b_39).bind fun b_40 => if b_40 = true then some (.rt false) else some (.nx ()) : Option (Lp Unit Bool))) x_28 ()).bind (Lp.elim (fun s_26 => some (.nx ())) (fun r_41 => some (.rt r_41))) : Option (Lp Unit Bool))) x_3 ()).bind (Lp.elim (fun s_1 => (rng (6 : Int)).bind fun x_6 => (forL (fun (s_4 : Unit) (one_5 : Int) => ((rng one_5).bind fun x_9 => (forL (fun (s_7 : Unit) (other_8 : Int) => ((imul (2 : Int) other_8).bind fun x_10 => (imod ((one_5 + x_10) + (1 : Int)) (6 : Int)).bind fun x_11 => (idx ways_0 one_5).bind fun x_12 => (idx x_12 x_11).bind fun x_13 => (idx ways_0 x_11).bind fun x_14 => (idx x_14 other_8).bind fun x_15 => (idx ways_0 one_5).bind fun x_16 => (idx x_16 other_8).bind fun x_17 => (idx moved_0 x_11).bind fun x_18 => (idx moved_0 one_5).bind fun x_19 => (idx moved_0 other_8).bind fun x_20 => (T_on_way_f tree_0 x_18 x_19 x_20).bind fun y_21 => (some (Enc.enc (decide (((x_13.length : Int) + (x_15.length : Int)) = ((x_17.length : Int) + (1 : Int)))))).bind fun x_22 => (ofRawB x_22).bind fun x_23 => if (!decide (y_21 = x_23)) = true then some (.rt false) else some (.nx ()) : Option (Lp Unit Bool))) x_9 ()).bind (Lp.elim (fun s_7 => some (.nx ())) (fun r_24 => some (.rt r_24))) : Option (Lp Unit Bool))) x_6 ()).bind (Lp.elim (fun s_4 => some true) (fun r_25 => some r_25))) (fun r_42 => some r_42))
abbrev l_same_val : Bool → Bool := fun w => w
abbrev l_same_emb : Bool → Env l_same_ps := fun w => (none, none, none, ())
theorem l_same_sim (tree_0 : TreeD) (moved_0 : List (Int × Int)) (ways_0 : List (List (List (Int × Int)))) : Sim (l_same_f tree_0 moved_0 ways_0) (bodyF (ps := l_same_ps) (ls := l_same_ls) l_same_m) ((some tree_0, some moved_0, some ways_0, ()) : Env l_same_ps) l_same_val l_same_emb := Sim.body (ps := l_same_ps) (ls := l_same_ls) (show SS (αs := l_same_T) l_same_m (ext l_same_ls l_same_ps ((some tree_0, some moved_0, some ways_0, ()) : Env l_same_ps)) (l_same_f tree_0 moved_0 ways_0) (Wf (ps := l_same_ps) (ls := l_same_ls) l_same_val l_same_emb) from (SS.seq (SS.forL (αs := l_same_T) (fun (s_1 : Unit) => ((some tree_0, some moved_0, some ways_0, none, none, none, none, none, none, ()) : Env l_same_T)) l_same_val (fun w => ext l_same_ls l_same_ps (l_same_emb w)) (SX.p1 (SX.val VX.c ⟨_, rfl, fun x_3 => ⟨_, _, _, _, rfl, (Le.c (.inr rfl) (Le.c (.inr rfl) (Le.c (.inr rfl) (Le.c (.inl rfl) (Le.c (.inl rfl) (Le.c (.inl rfl) (Le.c (.inl rfl) (Le.c (.inl rfl) (Le.c (.inl rfl) Le.n))))))))), fun s_1 one_2 => (SS.forL (αs := l_same_T) (fun (s_26 : Unit) => ((some tree_0, some moved_0, some ways_0, some one_2, none, none, none, none, none, ()) : Env l_same_T)) l_same_val (fun w => ext l_same_ls l_same_ps (l_same_emb w)) (SX.p1 (SX.val VX.c ⟨_, rfl, fun x_28 => ⟨_, _, _, _, rfl, (Le.c (.inr rfl) (Le.c (.inr rfl) (Le.c (.inr rfl) (Le.c (.inr rfl) (Le.c (.inl rfl) (Le.c (.inl rfl) (Le.c (.inl rfl) (Le.c (.inl rfl) (Le.c (.inl rfl) Le.n))))))))), fun s_26 other_27 => (SS.of (SX.seq (SX.asg (SX.t1 (SX.t2 (SX.t1 (SX.p2 (SX.p2 (SX.val (VX.v rfl) (SX.val (VX.v rfl) ⟨_, rfl, fun x_29 => (SX.val (VX.v rfl) ⟨_, rfl, fun x_30 => ⟨_, rfl, (SX.val VX.c ⟨_, rfl, ⟨_, rfl, (SX.seq (SX.asg (SX.call (SX.aV (SX.val (VX.v rfl) (SX.aV (SX.p2 (SX.val (VX.v rfl) (SX.val (VX.v rfl) ⟨_, rfl, fun x_31 => (SX.aV (SX.p2 (SX.val (VX.v rfl) (SX.val (VX.v rfl) ⟨_, rfl, fun x_32 => (SX.aNil ⟨_, _, _, _, rfl, (T_distance_sim _ _ _), fun _ => (Full.v (Full.v (Full.v Full.nil))), fun y_33 => (SX.sif (SX.or (SX.t1 (SX.call (SX.aV (SX.val (VX.v rfl) (SX.aNil ⟨_, _, _, _, rfl, (l_whole_sim _), fun _ => (Full.v Full.nil), fun y_34 => ⟨_, rfl, ⟨_, _, rfl, (SX.or (SX.t2 (SX.val (VX.v rfl) (SX.p1 (SX.val (VX.v rfl) ⟨_, rfl, fun x_35 => ⟨_, rfl, ⟨_, _, rfl, (SX.t2 (SX.t2 (SX.p2 (SX.val (VX.v rfl) (SX.val (VX.v rfl) ⟨_, rfl, fun x_36 => (SX.p2 (SX.val (VX.v rfl) (SX.val (VX.v rfl) ⟨_, rfl, fun x_37 => ⟨_, rfl, (SX.t2 (SX.p1 (SX.val (VX.v rfl) ⟨_, rfl, fun x_38 => (SX.val VX.c ⟨_, rfl, ⟨_, rfl, ⟨rfl, rfl⟩⟩⟩)⟩)))⟩⟩)))⟩))))), fun b_39 => ⟨rfl, rfl⟩⟩⟩⟩))))), fun b_40 => ⟨_, _, rfl, (SX.sret (SX.val VX.c (WL.rtI (αs := l_same_T) (val := l_same_val) (embR := (fun w => ext l_same_ls l_same_ps (l_same_emb w))) (r := false) (Le.ext ⟨.inl rfl, ⟨.inl rfl, ⟨.inl rfl, trivial⟩⟩⟩)))), (SX.skip (WL.nxI (.inl rfl) (Le.c (.inr rfl) (Le.c (.inr rfl) (Le.c (.inr rfl) (Le.c (.inr rfl) (Le.c (.inl rfl) (Le.c (.inl rfl) (Le.c (.inl rfl) (Le.c (.inl rfl) (Le.c (.inl rfl) Le.n)))))))))))⟩⟩⟩⟩)))))))⟩)⟩))))⟩)))))))))⟩⟩)⟩⟩)⟩)))))))))), fun s_26 => (WL.nxI (.inl rfl) (Le.c (.inr rfl) (Le.c (.inr rfl) (Le.c (.inr rfl) (Le.c (.inl rfl) (Le.c (.inl rfl) (Le.c (.inl rfl) (Le.c (.inl rfl) (Le.c (.inl rfl) (Le.c (.inl rfl) Le.n)))))))))), fun r_41 => (WL.rtI (Le.refl _))⟩⟩))), fun s_1 => (SS.seq (SS.forL (αs := l_same_T) (fun (s_4 : Unit) => ((some tree_0, some moved_0, some ways_0, none, none, none, none, none, none, ()) : Env l_same_T)) l_same_val (fun w => ext l_same_ls l_same_ps (l_same_emb w)) (SX.p1 (SX.val VX.c ⟨_, rfl, fun x_6 => ⟨_, _, _, _, rfl, (Le.c (.inr rfl) (Le.c (.inr rfl) (Le.c (.inr rfl) (Le.c (.inl rfl) (Le.c (.inl rfl) (Le.c (.inl rfl) (Le.c (.inl rfl) (Le.c (.inl rfl) (Le.c (.inl rfl) Le.n))))))))), fun s_4 one_5 => (SS.forL (αs := l_same_T) (fun (s_7 : Unit) => ((some tree_0, some moved_0, some ways_0, some one_5, none, none, none, none, none, ()) : Env l_same_T)) l_same_val (fun w => ext l_same_ls l_same_ps (l_same_emb w)) (SX.p1 (SX.val (VX.v rfl) ⟨_, rfl, fun x_9 => ⟨_, _, _, _, rfl, (Le.c (.inr rfl) (Le.c (.inr rfl) (Le.c (.inr rfl) (Le.c (.inr rfl) (Le.c (.inl rfl) (Le.c (.inl rfl) (Le.c (.inl rfl) (Le.c (.inl rfl) (Le.c (.inl rfl) Le.n))))))))), fun s_7 other_8 => (SS.of (SX.seq (SX.asg (SX.p2 (SX.t1 (SX.t2 (SX.t2 (SX.val (VX.v rfl) (SX.p2 (SX.val VX.c (SX.val (VX.v rfl) ⟨_, rfl, fun x_10 => ⟨_, rfl, (SX.val VX.c ⟨_, rfl, ⟨_, rfl, (SX.val VX.c ⟨_, rfl, fun x_11 => (SX.seq (SX.asg (SX.t2 (SX.t1 (SX.p2 (SX.p2 (SX.val (VX.v rfl) (SX.val (VX.v rfl) ⟨_, rfl, fun x_12 => (SX.val (VX.v rfl) ⟨_, rfl, fun x_13 => ⟨_, rfl, (SX.t1 (SX.p2 (SX.p2 (SX.val (VX.v rfl) (SX.val (VX.v rfl) ⟨_, rfl, fun x_14 => (SX.val (VX.v rfl) ⟨_, rfl, fun x_15 => ⟨_, rfl, ⟨_, rfl, (SX.seq (SX.asg (SX.t1 (SX.t2 (SX.val (VX.v rfl) (SX.t2 (SX.t1 (SX.p2 (SX.p2 (SX.val (VX.v rfl) (SX.val (VX.v rfl) ⟨_, rfl, fun x_16 => (SX.val (VX.v rfl) ⟨_, rfl, fun x_17 => ⟨_, rfl, (SX.val VX.c ⟨_, rfl, ⟨_, rfl, ⟨_, rfl, (SX.sif (SX.t2 (SX.call (SX.aV (SX.val (VX.v rfl) (SX.aV (SX.p2 (SX.val (VX.v rfl) (SX.val (VX.v rfl) ⟨_, rfl, fun x_18 => (SX.aV (SX.p2 (SX.val (VX.v rfl) (SX.val (VX.v rfl) ⟨_, rfl, fun x_19 => (SX.aV (SX.p2 (SX.val (VX.v rfl) (SX.val (VX.v rfl) ⟨_, rfl, fun x_20 => (SX.aNil ⟨_, _, _, _, rfl, (T_on_way_sim _ _ _ _), fun _ => (Full.v (Full.v (Full.v (Full.v Full.nil)))), fun y_21 => (SX.p1 (SX.nm (VX.v rfl) ⟨_, rfl, fun x_22 => ⟨_, rfl, fun x_23 => ⟨_, rfl, ⟨_, _, rfl, (SX.sret (SX.val VX.c (WL.rtI (αs := l_same_T) (val := l_same_val) (embR := (fun w => ext l_same_ls l_same_ps (l_same_emb w))) (r := false) (Le.ext ⟨.inl rfl, ⟨.inl rfl, ⟨.inl rfl, trivial⟩⟩⟩)))), (SX.skip (WL.nxI (.inl rfl) (Le.c (.inr rfl) (Le.c (.inr rfl) (Le.c (.inr rfl) (Le.c (.inr rfl) (Le.c (.inl rfl) (Le.c (.inl rfl) (Le.c (.inl rfl) (Le.c (.inl rfl) (Le.c (.inl rfl) Le.n)))))))))))⟩⟩⟩⟩))⟩)⟩))))⟩))))⟩)))))))))⟩⟩⟩)⟩⟩)⟩)))))))))))⟩⟩⟩)⟩)))))⟩⟩)⟩))))))))⟩)⟩⟩)⟩⟩))))))))))), fun s_7 => (WL.nxI (.inl rfl) (Le.c (.inr rfl) (Le.c (.inr rfl) (Le.c (.inr rfl) (Le.c (.inl rfl) (Le.c (.inl rfl) (Le.c (.inl rfl) (Le.c (.inl rfl) (Le.c (.inl rfl) (Le.c (.inl rfl) Le.n)))))))))), fun r_24 => (WL.rtI (Le.refl _))⟩⟩))), fun s_4 => (SS.of (SX.sret (SX.val VX.c (Wf.mk (ps := l_same_ps) (ls := l_same_ls) (val := l_same_val) (emb := l_same_emb) (w := true) ⟨.inl rfl, ⟨.inl rfl, ⟨.inl rfl, trivial⟩⟩⟩)))), fun r_25 => (Wf.rt (ps := l_same_ps) (ls := l_same_ls) r_25)⟩⟩)))), fun r_42 => (Wf.rt (ps := l_same_ps) (ls := l_same_ls) r_42)⟩⟩)))))
noncomputable def l_moved_steps_f (tree_0 : TreeD) (upper_0 : TreeD) (root_0 : Int) (ends_0 : (T4 (Int × Int) (Int × Int) (Int × Int) (Int × Int))) (whole_0 : Int) : Option Bool := (idiv whole_0 (3 : Int)).bind fun x_3 => (idiv whole_0 (2 : Int)).bind fun x_4 => (forL (fun (s_1 : Unit) (far_2 : Int) => ((T_towards_f upper_0 ends_0.a ends_0.b far_2).bind fun y_5 => (T_towards_f tree_0 ends_0.c ends_0.d far_2).bind fun y_6 => (T_hung_point_f upper_0 root_0 y_5).bind fun y_7 => if (!decide (y_6 = y_7)) = true then some (.rt false) else some (.nx ()) : Option (Lp Unit Bool))) ((0 : Int) :: (x_3 :: (x_4 :: (whole_0 :: ([] : List Int))))) ()).bind (Lp.elim (fun s_1 => some true) (fun r_8 => some r_8))
abbrev l_moved_steps_val : Bool → Bool := fun w => w
abbrev l_moved_steps_emb : Bool → Env l_moved_steps_ps := fun w => (none, none, none, none, none, ())
theorem l_moved_steps_sim (tree_0 : TreeD) (upper_0 : TreeD) (root_0 : Int) (ends_0 : (T4 (Int × Int) (Int × Int) (Int × Int) (Int × Int))) (whole_0 : Int) : Sim (l_moved_steps_f tree_0 upper_0 root_0 ends_0 whole_0) (bodyF (ps := l_moved_steps_ps) (ls := l_moved_steps_ls) l_moved_steps_m) ((some tree_0, some upper_0, some root_0, some ends_0, some whole_0, ()) : Env l_moved_steps_ps) l_moved_steps_val l_moved_steps_emb := Sim.body (ps := l_moved_steps_ps) (ls := l_moved_steps_ls) (show SS (αs := l_moved_steps_T) l_moved_steps_m (ext l_moved_steps_ls l_moved_steps_ps ((some tree_0, some upper_0, some root_0, some ends_0, some whole_0, ()) : Env l_moved_steps_ps)) (l_moved_steps_f tree_0 upper_0 root_0 ends_0 whole_0) (Wf (ps := l_moved_steps_ps) (ls := l_moved_steps_ls) l_moved_steps_val l_moved_steps_emb) from (SS.seqX (SX.asgG (SX.val (VX.v rfl) (SS.seq (SS.forL (αs := l_moved_steps_T) (fun (s_1 : Unit) => ((some tree_0, some upper_0, some root_0, some ends_0, some whole_0, none, some ends_0.a, some ends_0.b, some ends_0.c, some ends_0.d, none, ()) : Env l_moved_steps_T)) l_moved_steps_val (fun w => ext l_moved_steps_ls l_moved_steps_ps (l_moved_steps_emb w)) (SX.lstN 4 (by decide) (SX.t2 (SX.val VX.c (SX.t2 (SX.p2 (SX.val (VX.v rfl) (SX.val VX.c ⟨_, rfl, fun x_3 => (SX.t2 (SX.p2 (SX.val (VX.v rfl) (SX.val VX.c ⟨_, rfl, fun x_4 => (SX.val (VX.t2 (VX.v rfl) VX.c rfl) ⟨_, rfl, ⟨_, rfl, ⟨_, rfl, ⟨rfl, ⟨_, _, _, _, rfl, (Le.c (.inr rfl) (Le.c (.inr rfl) (Le.c (.inr rfl) (Le.c (.inr rfl) (Le.c (.inr rfl) (Le.c (.inl rfl) (Le.c (.inr rfl) (Le.c (.inr rfl) (Le.c (.inr rfl) (Le.c (.inr rfl) (Le.c (.inl rfl) Le.n))))))))))), fun s_1 far_2 => (SS.of (SX.seq (SX.asg (SX.call (SX.aV (SX.val (VX.v rfl) (SX.aV (SX.val (VX.v rfl) (SX.aV (SX.val (VX.v rfl) (SX.aV (SX.val (VX.v rfl) (SX.aNil ⟨_, _, _, _, rfl, (T_towards_sim _ _ _ _), fun _ => (Full.v (Full.v (Full.v (Full.v Full.nil)))), fun y_5 => (SX.sif (SX.t2 (SX.call (SX.aV (SX.val (VX.v rfl) (SX.aV (SX.val (VX.v rfl) (SX.aV (SX.val (VX.v rfl) (SX.aV (SX.val (VX.v rfl) (SX.aNil ⟨_, _, _, _, rfl, (T_towards_sim _ _ _ _), fun _ => (Full.v (Full.v (Full.v (Full.v Full.nil)))), fun y_6 => (SX.call (SX.aV (SX.val (VX.v rfl) (SX.aV (SX.val (VX.v rfl) (SX.aV (SX.val (VX.v rfl) (SX.aNil ⟨_, _, _, _, rfl, (T_hung_point_sim _ _ _), fun _ => (Full.v (Full.v (Full.v Full.nil))), fun y_7 => ⟨_, rfl, ⟨_, _, rfl, (SX.sret (SX.val VX.c (WL.rtI (αs := l_moved_steps_T) (val := l_moved_steps_val) (embR := (fun w => ext l_moved_steps_ls l_moved_steps_ps (l_moved_steps_emb w))) (r := false) (Le.ext ⟨.inl rfl, ⟨.inl rfl, ⟨.inl rfl, ⟨.inl rfl, ⟨.inl rfl, trivial⟩⟩⟩⟩⟩)))), (SX.skip (WL.nxI (.inl rfl) (Le.c (.inr rfl) (Le.c (.inr rfl) (Le.c (.inr rfl) (Le.c (.inr rfl) (Le.c (.inr rfl) (Le.c (.inl rfl) (Le.c (.inr rfl) (Le.c (.inr rfl) (Le.c (.inr rfl) (Le.c (.inr rfl) (Le.c (.inl rfl) Le.n)))))))))))))⟩⟩⟩))))))))⟩))))))))))))⟩))))))))))))), fun s_1 => (SS.of (SX.sret (SX.val VX.c (Wf.mk (ps := l_moved_steps_ps) (ls := l_moved_steps_ls) (val := l_moved_steps_val) (emb := l_moved_steps_emb) (w := true) ⟨.inl rfl, ⟨.inl rfl, ⟨.inl rfl, ⟨.inl rfl, ⟨.inl rfl, trivial⟩⟩⟩⟩⟩)))), fun r_8 => (Wf.rt (ps := l_moved_steps_ps) (ls := l_moved_steps_ls) r_8)⟩⟩⟩⟩⟩)⟩))))⟩)))))))))))))
noncomputable def l_case_f (digits_0 : List Int) : Option (Bool × List Int) := (l_take_f digits_0 (4 : Int)).bind fun w_1 => (idx ((1 : Int) :: ((3 : Int) :: ((6 : Int) :: ((40 : Int) :: ([] : List Int))))) w_1.1).bind fun x_2 => (l_roads_f w_1.2 (8 : Int) x_2).bind fun w_3 => (rng (6 : Int)).bind fun x_5 => (cap x_5 (lcS (fun (t_4 : List Int) (turn_6 : Int) => some true) (fun t_4 turn_6 => (l_point_f t_4 w_3.1).bind fun w_7 => some (w_7.1, w_7.2)) x_5 w_3.2)).bind fun w_8 => (cap w_8.1 (lcO (fun (one_9 : (Int × Int)) => some true) (fun one_9 => (cap w_8.1 (lcO (fun (other_10 : (Int × Int)) => some true) (fun other_10 => (l_way_f w_3.1 one_9 other_10).bind fun y_11 => some y_11) w_8.1)).bind fun ys_12 => some ys_12) w_8.1)).bind fun ys_13 => (T_init_f w_3.1).bind fun t_14 => (l_same_f t_14 w_8.1 ys_13).bind fun y_15 => if (!y_15) = true then some (false, w_8.2) else (l_take_f w_8.2 (4 : Int)).bind fun w_18 => (rng ((1 : Int) + w_18.1)).bind fun x_19 => (forL (fun (s_16 : (List Int × TreeD × List (Int × Int))) (turn_17 : Int) => ((l_take_f s_16.1 ((w_3.1.length : Int) + (1 : Int))).bind fun w_20 => (T_hung_f s_16.2.1 w_20.1).bind fun y_21 => (cap s_16.2.2 (lcO (fun (point_22 : (Int × Int)) => some true) (fun point_22 => (T_hung_point_f s_16.2.1 w_20.1 point_22).bind fun y_23 => some y_23) s_16.2.2)).bind fun ys_24 => (isTr y_21).bind fun x_25 => (if (!x_25) = true then some true else (T_len_f y_21).bind fun w_26 => (len63 w_26).bind fun n_27 => (if (!decide (n_27 = ((w_3.1.length : Int) + (1 : Int)))) = true then some true else (idx ys_24 (0 : Int)).bind fun x_28 => (T_contains_f y_21 x_28).bind fun b_29 => some (!b_29)).bind fun b_30 => some b_30).bind fun b_31 => if b_31 = true then some (.rt (false, w_20.2)) else (T_roads_f y_21).bind fun y_32 => (cap y_32 (lcO (fun (pair_33 : (Int × Int)) => some true) (fun pair_33 => some pair_33.2) y_32)).bind fun ys_34 => (cap w_3.1 (lcO (fun (pair_35 : (Int × Int)) => some true) (fun pair_35 => some pair_35.2) w_3.1)).bind fun ys_36 => if (!decide (ys_34.sum = ys_36.sum)) = true then some (.rt (false, w_20.2)) else (idx s_16.2.2 (0 : Int)).bind fun x_37 => (idx s_16.2.2 (1 : Int)).bind fun x_38 => (idx ys_24 (0 : Int)).bind fun x_39 => (idx ys_24 (1 : Int)).bind fun x_40 => (l_same_f y_21 ys_24 ys_13).bind fun y_41 => if (!y_41) = true then some (.rt (false, w_20.2)) else (idx ys_13 (0 : Int)).bind fun x_42 => (idx x_42 (1 : Int)).bind fun x_43 => (l_moved_steps_f y_21 s_16.2.1 w_20.1 (T4.mk x_37 x_38 x_39 x_40) ((x_43.length : Int) - (1 : Int))).bind fun y_44 => if (!y_44) = true then some (.rt (false, w_20.2)) else (idx s_16.2.2 (5 : Int)).bind fun x_45 => (T_contains_f s_16.2.1 x_45).bind fun b_46 => (if (!b_46) = true then some true else (idx ys_24 (5 : Int)).bind fun x_47 => (T_contains_f y_21 x_47).bind fun b_48 => some (!b_48)).bind fun b_49 => if b_49 = true then some (.rt (false, w_20.2)) else (idx s_16.2.2 (2 : Int)).bind fun x_50 => (idx s_16.2.2 (3 : Int)).bind fun x_51 => (T_distance_f s_16.2.1 x_50 x_51).bind fun y_52 => (idx ys_13 (2 : Int)).bind fun x_53 => (idx x_53 (3 : Int)).bind fun x_54 => if (!decide (y_52 = ((x_54.length : Int) - (1 : Int)))) = true then some (.rt (false, w_20.2)) else some (.nx (w_20.2, y_21, ys_24)) : Option (Lp (List Int × TreeD × List (Int × Int)) (Bool × List Int)))) x_19 (w_18.2, t_14, w_8.1)).bind (Lp.elim (fun s_16 => some (true, s_16.1)) (fun r_55 => some r_55))
abbrev l_case_val : (Bool × List Int) → Bool := fun w => w.1
abbrev l_case_emb : (Bool × List Int) → Env l_case_ps := fun w => (some w.2, ())
theorem l_case_sim (digits_0 : List Int) : Sim (l_case_f digits_0) (bodyF (ps := l_case_ps) (ls := l_case_ls) l_case_m) ((some digits_0, ()) : Env l_case_ps) l_case_val l_case_emb := Sim.body (ps := l_case_ps) (ls := l_case_ls) (show SS (αs := l_case_T) l_case_m (ext l_case_ls l_case_ps ((some digits_0, ()) : Env l_case_ps)) (l_case_f digits_0) (Wf (ps := l_case_ps) (ls := l_case_ls) l_case_val l_case_emb) from (SS.seqX (SX.asg (SX.call (SX.aM rfl (SX.aV (SX.val VX.c (SX.aV (SX.p2 (SX.val (VX.lstN 4 (VX.t2 VX.c (VX.t2 VX.c (VX.t2 VX.c (VX.t2 VX.c VX.c rfl) rfl) rfl) rfl) rfl (by decide)) (SX.call (SX.aM rfl (SX.aV (SX.val VX.c (SX.aNil ⟨_, rfl, ⟨_, _, _, _, rfl, (l_take_sim _ _), fun _ => (Full.m rfl (Full.v Full.nil)), fun w_1 => ⟨_, rfl, fun x_2 => (SX.aNil ⟨_, rfl, ⟨_, _, _, _, rfl, (l_roads_sim _ _ _), fun _ => (Full.m rfl (Full.v (Full.v Full.nil))), fun w_3 => (SS.seqX (SX.asg (SX.lcS (αs := l_case_T) (fun (t_4 : List Int) => ((some t_4, some w_3.1, none, none, none, none, none, none, none, none, none, none, none, none, none, ()) : Env l_case_T)) (fun _ _ => own1) (SX.p1 (SX.val VX.c ⟨_, rfl, fun x_5 => ⟨_, _, _, _, rfl, rfl, fun t_4 turn_6 => (SX.val VX.c ⟨rfl, rfl⟩), fun t_4 turn_6 => (SX.call (SX.aM rfl (SX.aV (SX.val (VX.v rfl) (SX.aNil ⟨_, rfl, ⟨_, _, _, _, rfl, (l_point_sim _ _), fun _ => (Full.m rfl (Full.v Full.nil)), fun w_7 => ⟨_, rfl, rfl⟩⟩⟩))))), fun w_8 => (SS.seqX (SX.asg (SX.lcO (fun _ _ => own1) (SX.val (VX.v rfl) ⟨_, _, _, rfl, fun one_9 => (SX.val VX.c ⟨rfl, rfl⟩), fun one_9 => (SX.lcO (fun _ _ => own1) (SX.val (VX.v rfl) ⟨_, _, _, rfl, fun other_10 => (SX.val VX.c ⟨rfl, rfl⟩), fun other_10 => (SX.call (SX.aV (SX.val (VX.v rfl) (SX.aV (SX.val (VX.v rfl) (SX.aV (SX.val (VX.v rfl) (SX.aNil ⟨_, _, _, _, rfl, (l_way_sim _ _ _), fun _ => (Full.v (Full.v (Full.v Full.nil))), fun y_11 => ⟨rfl, rfl⟩⟩)))))))), fun ys_12 => ⟨rfl, rfl⟩⟩)), fun ys_13 => (SS.seqX (SX.asg (SX.t1 (SX.make (SX.aV (SX.val (VX.t1 (VX.v rfl) rfl) (SX.aNil ⟨_, _, _, _, _, rfl, (T_init_sim _), fun _ => rfl, fun t_14 => ⟨_, rfl, (SS.seqX (SX.asg (SX.val (VX.t1 (VX.v rfl) rfl) (SS.seqX (SX.sif (SX.t1 (SX.call (SX.aV (SX.val (VX.v rfl) (SX.aV (SX.val (VX.v rfl) (SX.aV (SX.val (VX.v rfl) (SX.aNil ⟨_, _, _, _, rfl, (l_same_sim _ _ _), fun _ => (Full.v (Full.v (Full.v Full.nil))), fun y_15 => ⟨_, rfl, ⟨_, _, rfl, (SX.sret (SX.val VX.c (Wf.mk (ps := l_case_ps) (ls := l_case_ls) (val := l_case_val) (emb := l_case_emb) (w := (false, w_8.2)) ⟨.inr rfl, trivial⟩))), (SX.skip (SS.seq (SS.forL (αs := l_case_T) (fun (s_16 : (List Int × TreeD × List (Int × Int))) => ((some s_16.1, some w_3.1, some w_8.1, some ys_13, some s_16.2.1, some s_16.2.2, none, none, none, none, none, none, none, none, none, ()) : Env l_case_T)) l_case_val (fun w => ext l_case_ls l_case_ps (l_case_emb w)) (SX.p1 (SX.t2 (SX.val VX.c (SX.call (SX.aM rfl (SX.aV (SX.val VX.c (SX.aNil ⟨_, rfl, ⟨_, _, _, _, rfl, (l_take_sim _ _), fun _ => (Full.m rfl (Full.v Full.nil)), fun w_18 => ⟨_, rfl, ⟨_, rfl, fun x_19 => ⟨_, _, _, _, rfl, (Le.c (.inr rfl) (Le.c (.inr rfl) (Le.c (.inr rfl) (Le.c (.inr rfl) (Le.c (.inr rfl) (Le.c (.inr rfl) (Le.c (.inl rfl) (Le.c (.inl rfl) (Le.c (.inl rfl) (Le.c (.inl rfl) (Le.c (.inl rfl) (Le.c (.inl rfl) (Le.c (.inl rfl) (Le.c (.inl rfl) (Le.c (.inl rfl) Le.n))))))))))))))), fun s_16 turn_17 => (SS.of (SX.seq (SX.asg (SX.call (SX.aM rfl (SX.aV (SX.val (VX.t2 (VX.t1 (VX.v rfl) rfl) VX.c rfl) (SX.aNil ⟨_, rfl, ⟨_, _, _, _, rfl, (l_take_sim _ _), fun _ => (Full.m rfl (Full.v Full.nil)), fun w_20 => (SX.seq (SX.asg (SX.call (SX.aV (SX.val (VX.v rfl) (SX.aV (SX.val (VX.v rfl) (SX.aNil ⟨_, _, _, _, rfl, (T_hung_sim _ _), fun _ => (Full.v (Full.v Full.nil)), fun y_21 => (SX.seq (SX.asg (SX.lcO (fun _ _ => own1) (SX.val (VX.v rfl) ⟨_, _, _, rfl, fun point_22 => (SX.val VX.c ⟨rfl, rfl⟩), fun point_22 => (SX.call (SX.aV (SX.val (VX.v rfl) (SX.aV (SX.val (VX.v rfl) (SX.aV (SX.val (VX.v rfl) (SX.aNil ⟨_, _, _, _, rfl, (T_hung_point_sim _ _ _), fun _ => (Full.v (Full.v (Full.v Full.nil))), fun y_23 => ⟨rfl, rfl⟩⟩)))))))), fun ys_24 => (SX.seq (SX.sif (SX.or (SX.t1 (SX.p1 (SX.val (VX.v rfl) ⟨_, rfl, fun x_25 => ⟨_, rfl, ⟨_, _, rfl, (SX.or (SX.t2 (SX.lenO (SX.val (VX.v rfl) ⟨_, _, _, _, rfl, (T_len_sim _), fun w_26 => ⟨_, rfl, fun n_27 => (SX.val (VX.t2 (VX.t1 (VX.v rfl) rfl) VX.c rfl) ⟨_, rfl, ⟨_, _, rfl, (SX.isin (SX.p2 (SX.val (VX.v rfl) (SX.val VX.c ⟨_, rfl, fun x_28 => (SX.val (VX.v rfl) ⟨_, _, _, _, rfl, (T_contains_sim _ _), fun b_29 => ⟨rfl, rfl⟩⟩)⟩)))), fun b_30 => ⟨rfl, rfl⟩⟩⟩)⟩⟩)))), fun b_31 => ⟨_, _, rfl, (SX.sret (SX.val VX.c (WL.rtI (αs := l_case_T) (val := l_case_val) (embR := (fun w => ext l_case_ls l_case_ps (l_case_emb w))) (r := (false, w_20.2)) (Le.ext ⟨.inr rfl, trivial⟩)))), (SX.skip (SX.seq (SX.sif (SX.t2 (SX.t1 (SX.lcO (fun _ _ => own1) (SX.call (SX.aV (SX.val (VX.v rfl) (SX.aNil ⟨_, _, _, _, rfl, (T_roads_sim _), fun _ => (Full.v Full.nil), fun y_32 => ⟨_, _, _, rfl, fun pair_33 => (SX.val VX.c ⟨rfl, rfl⟩), fun pair_33 => (SX.val (VX.t1 (VX.v rfl) rfl) ⟨rfl, rfl⟩), fun ys_34 => ⟨_, rfl, (SX.t1 (SX.lcO (fun _ _ => own1) (SX.val (VX.v rfl) ⟨_, _, _, rfl, fun pair_35 => (SX.val VX.c ⟨rfl, rfl⟩), fun pair_35 => (SX.val (VX.t1 (VX.v rfl) rfl) ⟨rfl, rfl⟩), fun ys_36 => ⟨_, rfl, ⟨_, rfl, ⟨_, _, rfl, (SX.sret (SX.val VX.c (WL.rtI (αs := l_case_T) (val := l_case_val) (embR := (fun w => ext l_case_ls l_case_ps (l_case_emb w))) (r := (false, w_20.2)) (Le.ext ⟨.inr rfl, trivial⟩)))), (SX.skip (SX.seq (SX.asg (SX.t2 (SX.t2 (SX.p2 (SX.val (VX.v rfl) (SX.val VX.c ⟨_, rfl, fun x_37 => (SX.p2 (SX.val (VX.v rfl) (SX.val VX.c ⟨_, rfl, fun x_38 => ⟨_, rfl, (SX.t2 (SX.p2 (SX.val (VX.v rfl) (SX.val VX.c ⟨_, rfl, fun x_39 => (SX.p2 (SX.val (VX.v rfl) (SX.val VX.c ⟨_, rfl, fun x_40 => ⟨_, rfl, ⟨_, rfl, (SX.seq (SX.sif (SX.t1 (SX.call (SX.aV (SX.val (VX.v rfl) (SX.aV (SX.val (VX.v rfl) (SX.aV (SX.val (VX.v rfl) (SX.aNil ⟨_, _, _, _, rfl, (l_same_sim _ _ _), fun _ => (Full.v (Full.v (Full.v Full.nil))), fun y_41 => ⟨_, rfl, ⟨_, _, rfl, (SX.sret (SX.val VX.c (WL.rtI (αs := l_case_T) (val := l_case_val) (embR := (fun w => ext l_case_ls l_case_ps (l_case_emb w))) (r := (false, w_20.2)) (Le.ext ⟨.inr rfl, trivial⟩)))), (SX.skip (SX.seq (SX.sif (SX.t1 (SX.call (SX.aV (SX.val (VX.v rfl) (SX.aV (SX.val (VX.v rfl) (SX.aV (SX.val (VX.v rfl) (SX.aV (SX.val (VX.v rfl) (SX.aV (SX.t2 (SX.t1 (SX.p2 (SX.p2 (SX.val (VX.v rfl) (SX.val VX.c ⟨_, rfl, fun x_42 => (SX.val VX.c ⟨_, rfl, fun x_43 => ⟨_, rfl, (SX.val VX.c ⟨_, rfl, (SX.aNil ⟨_, _, _, _, rfl, (l_moved_steps_sim _ _ _ _ _), fun _ => (Full.v (Full.v (Full.v (Full.v (Full.v Full.nil))))), fun y_44 => ⟨_, rfl, ⟨_, _, rfl, (SX.sret (SX.val VX.c (WL.rtI (αs := l_case_T) (val := l_case_val) (embR := (fun w => ext l_case_ls l_case_ps (l_case_emb w))) (r := (false, w_20.2)) (Le.ext ⟨.inr rfl, trivial⟩)))), (SX.skip (SX.seq (SX.sif (SX.or (SX.isin (SX.p2 (SX.val (VX.v rfl) (SX.val VX.c ⟨_, rfl, fun x_45 => (SX.val (VX.v rfl) ⟨_, _, _, _, rfl, (T_contains_sim _ _), fun b_46 => ⟨_, _, rfl, (SX.isin (SX.p2 (SX.val (VX.v rfl) (SX.val VX.c ⟨_, rfl, fun x_47 => (SX.val (VX.v rfl) ⟨_, _, _, _, rfl, (T_contains_sim _ _), fun b_48 => ⟨rfl, rfl⟩⟩)⟩)))), fun b_49 => ⟨_, _, rfl, (SX.sret (SX.val VX.c (WL.rtI (αs := l_case_T) (val := l_case_val) (embR := (fun w => ext l_case_ls l_case_ps (l_case_emb w))) (r := (false, w_20.2)) (Le.ext ⟨.inr rfl, trivial⟩)))), (SX.skip (SX.seq (SX.sif (SX.t2 (SX.call (SX.aV (SX.val (VX.v rfl) (SX.aV (SX.p2 (SX.val (VX.v rfl) (SX.val VX.c ⟨_, rfl, fun x_50 => (SX.aV (SX.p2 (SX.val (VX.v rfl) (SX.val VX.c ⟨_, rfl, fun x_51 => (SX.aNil ⟨_, _, _, _, rfl, (T_distance_sim _ _ _), fun _ => (Full.v (Full.v (Full.v Full.nil))), fun y_52 => (SX.t2 (SX.t1 (SX.p2 (SX.p2 (SX.val (VX.v rfl) (SX.val VX.c ⟨_, rfl, fun x_53 => (SX.val VX.c ⟨_, rfl, fun x_54 => ⟨_, rfl, (SX.val VX.c ⟨_, rfl, ⟨_, rfl, ⟨_, _, rfl, (SX.sret (SX.val VX.c (WL.rtI (αs := l_case_T) (val := l_case_val) (embR := (fun w => ext l_case_ls l_case_ps (l_case_emb w))) (r := (false, w_20.2)) (Le.ext ⟨.inr rfl, trivial⟩)))), (SX.skip (SX.par (SX.val (VX.v rfl) (SX.val (VX.v rfl) (WL.nxI (.inl rfl) (Le.c (.inr rfl) (Le.c (.inr rfl) (Le.c (.inr rfl) (Le.c (.inr rfl) (Le.c (.inr rfl) (Le.c (.inr rfl) (Le.c (.inl rfl) (Le.c (.inl rfl) (Le.c (.inl rfl) (Le.c (.inl rfl) (Le.c (.inl rfl) (Le.c (.inl rfl) (Le.c (.inl rfl) (Le.c (.inl rfl) (Le.c (.inl rfl) Le.n))))))))))))))))))))⟩⟩⟩)⟩⟩)⟩))))))⟩)⟩))))⟩)))))))))))⟩⟩⟩)⟩))))))))⟩⟩⟩)⟩)⟩⟩)⟩))))))))))))))))))))⟩⟩⟩)))))))))))⟩⟩⟩)))⟩))))⟩⟩)))⟩))))))))⟩⟩⟩⟩)))⟩⟩⟩))))))))))⟩⟩⟩⟩))))))⟩))))⟩))))))))⟩⟩)))))))), fun s_16 => (SS.of (SX.sret (SX.val VX.c (Wf.mk (ps := l_case_ps) (ls := l_case_ls) (val := l_case_val) (emb := l_case_emb) (w := (true, s_16.1)) ⟨.inr rfl, trivial⟩)))), fun r_55 => (Wf.rt (ps := l_case_ps) (ls := l_case_ls) r_55)⟩⟩⟩⟩⟩)))))))))))⟩⟩⟩))))))))))))))⟩⟩)))))))⟩))))⟩⟩)))))⟩⟩)⟩⟩⟩)))))))))))))))
noncomputable def law_f (script_0 : List Int) : Option Bool := (some (if (if (5 : Int) < (script_0.length : Int) then (5 : Int) else (script_0.length : Int)) > (1 : Int) then (if (5 : Int) < (script_0.length : Int) then (5 : Int) else (script_0.length : Int)) else (1 : Int))).bind fun x_3 => (rng x_3).bind fun x_4 => (forL (fun (s_1 : Unit) (at_2 : Int) => ((l_digits_f script_0 at_2).bind fun y_5 => (l_case_f y_5).bind fun w_6 => if (!w_6.1) = true then some (.rt false) else some (.nx ()) : Option (Lp Unit Bool))) x_4 ()).bind (Lp.elim (fun s_1 => some true) (fun r_7 => some r_7))
abbrev law_val : Bool → Bool := fun w => w
abbrev law_emb : Bool → Env law_ps := fun w => (none, ())
theorem law_sim (script_0 : List Int) : Sim (law_f script_0) (bodyF (ps := law_ps) (ls := law_ls) law_m) ((some script_0, ()) : Env law_ps) law_val law_emb := Sim.body (ps := law_ps) (ls := law_ls) (show SS (αs := law_T) law_m (ext law_ls law_ps ((some script_0, ()) : Env law_ps)) (law_f script_0) (Wf (ps := law_ps) (ls := law_ls) law_val law_emb) from (SS.seq (SS.forL (αs := law_T) (fun (s_1 : Unit) => ((some script_0, none, ()) : Env law_T)) law_val (fun w => ext law_ls law_ps (law_emb w)) (SX.p1 (SX.nm (VX.t2 VX.c (VX.t2 (VX.t1 (VX.v rfl) rfl) VX.c rfl) rfl) ⟨_, rfl, fun x_3 => ⟨_, rfl, fun x_4 => ⟨_, _, _, _, rfl, (Le.c (.inr rfl) (Le.c (.inl rfl) Le.n)), fun s_1 at_2 => (SS.of (SX.sif (SX.t1 (SX.callT (SX.call (SX.aV (SX.val (VX.v rfl) (SX.aV (SX.val (VX.v rfl) (SX.aNil ⟨_, _, _, _, rfl, (l_digits_sim _ _), fun _ => (Full.v (Full.v Full.nil)), fun y_5 => ⟨_, _, _, _, rfl, (l_case_sim _), fun w_6 => ⟨_, rfl, ⟨_, _, rfl, (SX.sret (SX.val VX.c (WL.rtI (αs := law_T) (val := law_val) (embR := (fun w => ext law_ls law_ps (law_emb w))) (r := false) (Le.ext ⟨.inl rfl, trivial⟩)))), (SX.skip (WL.nxI (.inl rfl) (Le.c (.inr rfl) (Le.c (.inl rfl) Le.n))))⟩⟩⟩⟩)))))))))), fun s_1 => (SS.of (SX.sret (SX.val VX.c (Wf.mk (ps := law_ps) (ls := law_ls) (val := law_val) (emb := law_emb) (w := true) ⟨.inl rfl, trivial⟩)))), fun r_7 => (Wf.rt (ps := law_ps) (ls := law_ls) r_7)⟩⟩⟩)))))
end Lw
namespace Lm
open Lw Sm PySem Tw
local macro_rules | `(tactic| walk_at "pf") => `(tactic| simp only [Option.bind_some, Option.bind_none, decide_eq_true_eq, Bool.and_eq_true, Bool.or_eq_true, Bool.not_eq_true', decide_eq_false_iff_not, Bool.false_eq_true, Bool.true_eq_false, if_true, if_false, ite_true, ite_false, idx0, setAt0, elim_nx, elim_rt, elim_bk, Bool.not_true, Bool.not_false, Bool.and_true, Bool.true_and, Bool.and_false, Bool.false_and, Bool.or_true, Bool.true_or, Bool.or_false, Bool.false_or, bind_id, ipow_18', List.nil_append, ge_iff_le, gt_iff_lt])
/-- a point as the program has it -/
def ip (p : Pt) : Int × Int := ((p.1 : Int), (p.2 : Int))
theorem ip_inj {p q : Pt} (h : ip p = ip q) : p = q := by
  obtain ⟨a, b⟩ := p
  obtain ⟨c, d⟩ := q
  have h1 : (a : Int) = c := congrArg Prod.fst h
  have h2 : (b : Int) = d := congrArg Prod.snd h
  have h3 : a = c := by omega
  have h4 : b = d := by omega
  rw [h3, h4]
theorem ip_1 (p : Pt) : (ip p).1 = (p.1 : Int) := rfl
theorem ip_2 (p : Pt) : (ip p).2 = (p.2 : Int) := rfl
theorem Vp.node' {rs : Rds} {v : Nat} (h : v ≤ rs.length) : Vp rs (v, 0) := ⟨h, len_pos _ _⟩
theorem road_at {rs : Rds} {L : Int} (V : Vr rs L) {v : Nat} (h0 : v ≠ 0) (h : v ≤ rs.length) : ∃ pa le, idx rs ((v : Int) - 1) = some (pa, le) ∧ (par rs v : Int) = pa ∧ (len rs v : Int) = le ∧ 1 ≤ le ∧ le ≤ L := by
  obtain ⟨⟨pa, le⟩, hab⟩ : ∃ x, rs[v - 1]? = some x := ⟨_, List.getElem?_eq_getElem (by omega)⟩
  have e1 := V.len_eq hab
  have e2 := V.par_eq hab
  rw [show v - 1 + 1 = v by omega] at e1 e2
  obtain ⟨_, _, h3, h4⟩ := V (v - 1) pa le hab
  exact ⟨pa, le, by rw [show (v : Int) - 1 = ((v - 1 : Nat) : Int) by omega]; exact idx_nat hab, e2, e1, h3, h4⟩
theorem indexOf_of {α : Type} [DecidableEq α] {xs : List α} {x : α} {j : Nat} (h : xs.findIdx? (fun y => decide (y = x)) = some j) : indexOf xs x = some (j : Int) := by
  unfold indexOf
  rw [h]; rfl
theorem indexOf_cast {os : List Nat} {i : Nat} (h : i ∈ os) : indexOf (os.map fun (n : Nat) => (n : Int)) (i : Int) = some ((os.idxOf i : Nat) : Int) := by
  refine indexOf_of ?_
  induction os with
  | nil => simp at h
  | cons y ys ih =>
    rw [List.map_cons, List.findIdx?_cons, List.idxOf_cons]
    by_cases e : y = i
    · subst e; simp
    · have e2 : ¬ ((y : Int) = (i : Int)) := by omega
      rw [ih (by rcases List.mem_cons.mp h with r | r; exact absurd r.symm e; exact r)]
      simp [e, e2, show (y == i) = false from by simp [e]]
theorem lcO_map' {α β γ : Type} {p : α → Option Bool} {g : α → Option β} {f : γ → α} : ∀ xs : List γ, lcO p g (xs.map f) = lcO (fun x => p (f x)) (fun x => g (f x)) xs
  | [] => rfl
  | x :: xs => by
    show ((p (f x)).bind fun b => if b = true then (g (f x)).bind fun y => (lcO p g (xs.map f)).bind fun ys => some (y :: ys) else lcO p g (xs.map f)) = _
    rw [lcO_map' xs]; rfl
theorem lcO_rng {β : Type} {p : Int → Option Bool} {g : Int → Option β} {n : Nat} (P : Nat → Bool) (G : Nat → β) (h : ∀ i, i < n → p (i : Int) = some (P i)) (k : ∀ i, i < n → P i = true → g (i : Int) = some (G i)) : lcO p g ((List.range n).map fun (i : Nat) => (i : Int)) = some (((List.range n).filter P).map G) := by
  rw [lcO_map']
  exact lcO_eq _ (fun i hi => h i (List.mem_range.mp hi)) fun i hi => k i (List.mem_range.mp hi)
theorem at_get {c : List Pt} {j : Nat} (h : j < c.length) : c[j]? = some (at_ c j) := by
  unfold at_
  rw [List.getD_eq_getElem?_getD, List.getElem?_eq_getElem h]; rfl
theorem is_integer_eq (n : Int) : is_integer_f n = some true := rfl
theorem is_pair_eq (p : Int × Int) : is_pair_f p = some true := by
  unfold is_pair_f
  simp [is_integer_eq]
theorem init_f {rs : Rds} {L : Int} (V : Vr rs L) (hl : rs.length ≤ 1000) : T_init_f rs = some (mk rs) := by
  refine run_eq ?_
  unfold T_init_f
  have key := forM_run (xs := rs) (t := TreeD.mk [0] [1] [0]) (B := fun (s_1 : TreeD) (road_2 : (Int × Int)) => (is_pair_f road_2).bind fun y_3 => if (!y_3) = true then none else (some ((!((decide ((0 : Int) ≤ road_2.1)) && (decide (road_2.1 < (s_1.ps.length : Int))))) || (decide (road_2.2 < (1 : Int))))).bind fun x_4 => if x_4 = true then none else (tAdd s_1 road_2.1 road_2.2).bind fun t_5 => some t_5)
    (fun j s => s = ⟨0 :: (rs.take j).map fun x => x.1, 1 :: (rs.take j).map fun x => x.2, (List.range (j + 1)).map fun v => (ht rs v : Int)⟩) (by simp [ht_zero]) fun j x s hj hs => by
    obtain ⟨pa, le⟩ := x
    subst hs
    obtain ⟨v1, v2, v3, v4⟩ := V j pa le hj
    have hjl : j < rs.length := (List.getElem?_eq_some_iff.mp hj).1
    have l1 : (0 :: (rs.take j).map fun x : Int × Int => x.1).length = j + 1 := by simp; omega
    have l2 : (1 :: (rs.take j).map fun x : Int × Int => x.2).length = j + 1 := by simp; omega
    have e1 := V.par_eq hj
    have e2 := V.len_eq hj
    have hp1 : par rs (j + 1) < j + 1 := par_lt (by omega)
    have g : idx ((List.range (j + 1)).map fun v => (ht rs v : Int)) pa = some (ht rs (par rs (j + 1)) : Int) := by
      rw [← e1]; exact idx_nat (mk_hs rs hp1)
    have e3 : (ht rs (par rs (j + 1)) : Int) + le = ht rs (j + 1) := by rw [ht_pos (v := j + 1) (by omega), ← e2]; omega
    have l3 : ((List.range (j + 1)).map fun v => (ht rs v : Int)).length = j + 1 := by simp
    rw [is_pair_eq]
    walk_at "pf"
    rw [if_neg (by rw [l1]; simp; omega)]
    unfold tAdd
    walk_at "pf"
    rw [g]
    walk_at "pf"
    rw [if_pos (by rw [l1, l2, l3]; omega)]
    refine ⟨_, rfl, ?_⟩
    rw [List.take_succ, hj, e3, List.range_succ (n := j + 1)]
    simp
  obtain ⟨s, e, rfl⟩ := key
  rw [e]
  refine ⟨_, rfl, ?_⟩
  rw [List.take_of_length_le (Nat.le_refl _)]
  rfl
theorem contains_f {rs : Rds} {L : Int} (V : Vr rs L) (x : Int × Int) : T_contains_f (mk rs) x = some (inb rs x) := by
  unfold T_contains_f
  rw [is_pair_eq]
  walk_at "pf"
  have lps : ((mk rs).ps.length : Int) = rs.length + 1 := by simp [mk]
  rw [lps]
  by_cases h : 0 ≤ x.1 ∧ x.1 < (rs.length : Int) + 1
  · rw [if_pos h]
    by_cases h3 : 0 ≤ x.2
    · rw [if_pos h3]
      have e : idx (mk rs).ls x.1 = some (len rs x.1.toNat : Int) := by
        have := mk_ls V (v := x.1.toNat) (by omega)
        have := idx_nat this
        rw [show ((x.1.toNat : Nat) : Int) = x.1 by omega] at this
        exact this
      rw [e]
      refine congrArg some ?_
      unfold inb
      exact beq_dec ⟨fun h4 => ⟨h.1, by omega, h3, h4⟩, fun h4 => h4.2.2.2⟩
    · rw [if_neg h3]
      exact congrArg some (decide_eq_false fun h => h3 h.2.2.1).symm
  · rw [if_neg h]
    exact congrArg some (decide_eq_false fun h4 => h ⟨h4.1, by omega⟩).symm
theorem inb_of {rs : Rds} {p : Pt} (h : Vp rs p) : inb rs (ip p) = true := by
  refine decide_eq_true ⟨by rw [ip_1]; omega, by rw [ip_1]; have := h.1; omega, by rw [ip_2]; omega, ?_⟩
  rw [ip_1, ip_2]
  have := h.2
  simp only [Int.toNat_natCast]
  omega
theorem height_f {rs : Rds} {L : Int} (V : Vr rs L) {p : Pt} (hv : Vp rs p) : T_height_f (mk rs) (ip p) = some (hp rs p : Int) := by
  unfold T_height_f
  rw [contains_f V, inb_of hv]
  walk_at "pf"
  have e : idx (mk rs).hs (p.1 : Int) = some (ht rs p.1 : Int) := idx_nat (mk_hs rs (by have := hv.1; omega))
  rw [ip_1, ip_2, e]
  refine congrArg some ?_
  have := hv.le_ht
  unfold hp
  omega
theorem junction_f {rs : Rds} {L : Int} (V : Vr rs L) {p q : Pt} (h1 : Vp rs p) (h2 : Vp rs q) : T_junction_f (mk rs) (ip p) (ip q) = some (jn rs p q : Int) := by
  refine run_eq ?_
  unfold T_junction_f
  rw [height_f V h1, Option.bind_some, height_f V h2, Option.bind_some]
  refine Run.elim (whL_run (fun s => ∃ v w : Nat, v ≤ rs.length ∧ w ≤ rs.length ∧ lca rs v w = lca rs p.1 q.1 ∧ s = ((v : Int), (w : Int))) (fun s => s.1.toNat + s.2.toNat) (fun s => lca rs p.1 q.1 ≤ rs.length ∧ s.1 = (lca rs p.1 q.1 : Int)) (fun _ => False) ?_ _ ⟨p.1, q.1, h1.1, h2.1, rfl, rfl⟩) ?_ fun _ h => h.elim
  · rintro _ ⟨v, w, hv, hw, hl, rfl⟩
    refine ⟨_, rfl, ?_⟩
    by_cases e : (v : Int) = (w : Int)
    · right
      have e' : v = w := by omega
      rw [lca_eq e'] at hl
      exact ⟨by simp [e], by omega, by omega⟩
    · left
      refine ⟨by simp [e], ?_⟩
      walk_at "pf"
      refine Run.ite (fun g => ?_) (fun g => ?_)
      · have e3 : idx (mk rs).ps (v : Int) = some (par rs v : Int) := idx_nat (mk_ps V hv)
        rw [e3]
        have := par_lt (rs := rs) (v := v) (by omega)
        refine ⟨_, rfl, ⟨par rs v, w, by omega, hw, by rw [← hl, lca_gt (v := v) (by omega)], rfl⟩, ?_⟩
        show ((par rs v : Int)).toNat + ((w : Int)).toNat < ((v : Int)).toNat + ((w : Int)).toNat
        omega
      · have e3 : idx (mk rs).ps (w : Int) = some (par rs w : Int) := idx_nat (mk_ps V hw)
        rw [e3]
        have := par_lt (rs := rs) (v := w) (by omega)
        refine ⟨_, rfl, ⟨v, par rs w, hv, by omega, by rw [← hl, lca_lt (w := w) (by omega)], rfl⟩, ?_⟩
        show ((v : Int)).toNat + ((par rs w : Int)).toNat < ((v : Int)).toNat + ((w : Int)).toNat
        omega
  · rintro ⟨a, b⟩ ⟨hw, ha⟩
    have ha : a = (lca rs p.1 q.1 : Int) := ha
    subst ha
    have e3 : idx (mk rs).hs (lca rs p.1 q.1 : Int) = some (ht rs (lca rs p.1 q.1) : Int) := idx_nat (mk_hs rs (by omega))
    rw [e3]
    refine ⟨_, rfl, ?_⟩
    unfold jn
    split <;> split <;> omega
theorem distance_f {rs : Rds} {L : Int} (V : Vr rs L) {p q : Pt} (h1 : Vp rs p) (h2 : Vp rs q) : T_distance_f (mk rs) (ip p) (ip q) = some (dist rs p q : Int) := by
  unfold T_distance_f
  rw [height_f V h1, Option.bind_some, height_f V h2, Option.bind_some, junction_f V h1 h2, Option.bind_some, imul_l (by decide), Option.bind_some]
  have jl := jn_le rs p q
  refine congrArg some ?_
  unfold dist
  omega
theorem on_way_f {rs : Rds} {L : Int} (V : Vr rs L) {x p q : Pt} (h0 : Vp rs x) (h1 : Vp rs p) (h2 : Vp rs q) : T_on_way_f (mk rs) (ip x) (ip p) (ip q) = some (decide (dist rs p x + dist rs x q = dist rs p q)) := by
  unfold T_on_way_f
  rw [distance_f V h1 h0, Option.bind_some, distance_f V h0 h2, Option.bind_some, distance_f V h1 h2, Option.bind_some]
  exact congrArg some (beq_dec (by omega))
theorem raised_y {rs : Rds} {L : Int} (V : Vr rs L) {p : Pt} (vp : Vp rs p) {k : Nat} (hk : k ≤ hp rs p) : T_raised_f (mk rs) (ip p) (k : Int) = some (ip (sts rs k p)) := by
  refine run_eq ?_
  unfold T_raised_f
  refine Run.elim (whL_run (fun s => ∃ (v u far : Nat), s = ((far : Int), (v : Int), (u : Int)) ∧ Vp rs (v, u) ∧ far ≤ hp rs (v, u) ∧ sts rs far (v, u) = sts rs k p) (fun s => s.2.1.toNat) (fun s => ∃ (v u far : Nat), s = ((far : Int), (v : Int), (u : Int)) ∧ sts rs k p = (v, u + far)) (fun _ => False) ?_ _ ⟨p.1, p.2, k, rfl, vp, hk, rfl⟩) ?_ fun _ h => h.elim
  · rintro _ ⟨v, u, far, rfl, vv, hf, hs⟩
    walk_at "pf"
    by_cases h0 : v = 0
    · subst h0
      rw [if_neg (by omega)]
      refine ⟨_, rfl, .inr ⟨rfl, 0, u, far, rfl, ?_⟩⟩
      have e := vv.zero rfl
      have e2 : u = 0 := congrArg Prod.snd e
      subst e2
      rw [show ((0, 0) : Pt) = (0, 0) from rfl, hp_zero] at hf
      have : far = 0 := by omega
      subst this
      rw [← hs]; rfl
    · rw [if_pos (by omega), show idx (mk rs).ls (v : Int) = some (len rs v : Int) from idx_nat (mk_ls V vv.1)]
      have vu : u < len rs v := vv.2
      refine ⟨_, rfl, ?_⟩
      by_cases hg : len rs v ≤ u + far
      · refine .inl ⟨by simp; omega, ?_⟩
        rw [show idx (mk rs).ps (v : Int) = some (par rs v : Int) from idx_nat (mk_ps V vv.1)]
        have pl := par_lt (rs := rs) (v := v) h0
        have vv2 : Vp rs (par rs v, 0) := ⟨by show par rs v ≤ _; have := vv.1; simp at this; omega, len_pos _ _⟩
        have eu := sts_up h0 vu
        have hh := vv.hp_sts (k := len rs v - u) (by omega)
        rw [eu] at hh
        refine ⟨_, rfl, ⟨par rs v, 0, far - (len rs v - u), ?_, vv2, by omega, ?_⟩, ?_⟩
        · show ((far : Int) - ((len rs v : Int) - (u : Int)), (par rs v : Int), (0 : Int)) = _
          refine Prod.ext ?_ rfl
          show (far : Int) - ((len rs v : Int) - (u : Int)) = ((far - (len rs v - u) : Nat) : Int)
          omega
        · rw [← hs, show far = (len rs v - u) + (far - (len rs v - u)) by omega, ← sts_add, eu]
          congr 1; omega
        · show ((par rs v : Int)).toNat < ((v : Int)).toNat
          omega
      · refine .inr ⟨by simp; omega, v, u, far, rfl, ?_⟩
        rw [← hs, sts_in h0 far u (by omega)]
  · rintro _ ⟨v, u, far, rfl, e⟩
    rw [e]
    exact ⟨_, rfl, rfl⟩
theorem towards_y {rs : Rds} {L : Int} (V : Vr rs L) {p x : Pt} (vp : Vp rs p) (vx : Vp rs x) {k : Nat} (hk : k ≤ dist rs p x) : T_towards_f (mk rs) (ip p) (ip x) (k : Int) = some (ip (tw rs p x k)) := by
  unfold T_towards_f
  rw [distance_f V vp vx, Option.bind_some, is_integer_eq]
  walk_at "pf"
  rw [if_neg (by simp; omega), height_f V vp, Option.bind_some, junction_f V vp vx, Option.bind_some]
  have jl := jn_le rs p x
  have hd : dist rs p x = hp rs p + hp rs x - 2 * jn rs p x := rfl
  unfold tw
  by_cases c : k ≤ hp rs p - jn rs p x
  · rw [if_pos (by omega), if_pos c, raised_y V vp (by omega)]
  · rw [if_neg (by omega), if_neg c, show (dist rs p x : Int) - (k : Int) = ((dist rs p x - k : Nat) : Int) by omega, raised_y V vx (by omega)]
theorem take_f {n k : Int} (h : 0 < k) (h2 : k < 1073741824) : l_take_f [n] k = some (n % k, [n / k]) := by
  unfold l_take_f
  walk_at "pf"
  rw [imod_pos h, idiv_pos h h2]
  rfl
theorem take_ok (n k : Int) (h : 0 < k) (h2 : k < 1073741824) : ∃ (j : Nat) (m : Int), l_take_f [n] k = some ((j : Int), [m]) ∧ (j : Int) < k := by
  refine ⟨(n % k).toNat, n / k, ?_, ?_⟩
  · rw [take_f h h2]
    have := Int.emod_nonneg n (by omega : k ≠ 0)
    rw [show (((n % k).toNat : Nat) : Int) = n % k by omega]
  · have := Int.emod_lt_of_pos n h
    have := Int.emod_nonneg n (by omega : k ≠ 0)
    omega
theorem digits_run (ns : List Int) (a : Nat) (ha : a ≤ 1000) : ∃ n, l_digits_f ns (a : Int) = some [n] := by
  have key : Run (l_digits_f ns (a : Int)) fun v => ∃ n, v = [n] := by
    unfold l_digits_f
    refine Run.bind (P := fun _ => True) ?_ fun c _ => ?_
    · refine Run.ite (fun h => ?_) fun _ => ⟨_, rfl, trivial⟩
      have h' : (a : Int) < (ns.length : Int) := of_decide_eq_true h
      have hl : a < ns.length := by omega
      rw [idx_nat (List.getElem?_eq_getElem hl)]
      exact ⟨_, rfl, trivial⟩
    · walk_at "pf"
      refine Run.ite (fun _ => ⟨_, rfl, _, rfl⟩) fun _ => ?_
      rw [imul_r (by decide), Option.bind_some, imul_l (by decide), Option.bind_some, imod_pos (by decide), Option.bind_some, rng_ok (by decide), Option.bind_some]
      refine Run.bind (forM_rng (n := (36 : Int).toNat) (g := fun (i : Nat) => (i : Int)) (fun _ s => 0 ≤ s.1 ∧ s.1 < 2147483629) ⟨Int.emod_nonneg _ (by decide), Int.emod_lt_of_pos _ (by decide)⟩ ?_) fun s _ => ⟨_, rfl, _, rfl⟩
      rintro j ⟨n, t⟩ hj ⟨h1, h2⟩
      have h1 : 0 ≤ n := h1
      have h2 : n < 2147483629 := h2
      have hj' : j < 36 := hj
      rw [imul_l (by omega), Option.bind_some, imul_l (by decide), Option.bind_some, imul_l (by omega), Option.bind_some, imod_pos (by decide), Option.bind_some, imul_l (by decide), Option.bind_some, imul_l (by decide), Option.bind_some, imod_pos (by decide), Option.bind_some, imul_r (by decide), Option.bind_some, idiv_pos (by decide) (by decide), Option.bind_some, imod_pos (by decide), Option.bind_some]
      exact ⟨_, rfl, Int.emod_nonneg _ (by decide), Int.emod_lt_of_pos _ (by decide)⟩
  obtain ⟨v, e, n, rfl⟩ := key
  exact ⟨n, e⟩
theorem roads_ok (n : Int) (most longest : Nat) (h1 : 1 ≤ most) (h2 : most ≤ 1000) (h3 : 1 ≤ longest) (h4 : longest ≤ 1000) : ∃ (rs : Rds) (m : Int), l_roads_f [n] (most : Int) (longest : Int) = some (rs, [m]) ∧ Vr rs longest ∧ rs.length < most := by
  have key : Run (l_roads_f [n] (most : Int) (longest : Int)) fun v => ∃ (rs : Rds) (m : Int), v = (rs, [m]) ∧ Vr rs longest ∧ rs.length < most := by
    unfold l_roads_f
    obtain ⟨j, n1, e1, hj⟩ := take_ok n (most : Int) (by omega) (by omega)
    simp only [e1, Option.bind_some]
    rw [rng2_ok (by omega), Option.bind_some, show ((1 : Int) + (j : Int) - 1).toNat = j by omega]
    refine Run.bind (forM_rng (n := j) (g := fun (i : Nat) => (1 : Int) + (i : Int)) (fun i s => ∃ m : Int, s.1 = [m] ∧ Vr s.2 longest ∧ s.2.length = i) ⟨n1, rfl, Vr.nil, rfl⟩ ?_) ?_
    · rintro i ⟨s1, rs⟩ hi ⟨m, h1, V, hlen⟩
      have h1 : s1 = [m] := h1
      subst h1
      have hlen : rs.length = i := hlen
      obtain ⟨p1, m1, f1, hp1⟩ := take_ok m (1 + (i : Int)) (by omega) (by omega)
      obtain ⟨l1, m2, f2, hl1⟩ := take_ok m1 (longest : Int) (by omega) (by omega)
      simp only [f1, f2, Option.bind_some]
      rw [appO_ok (by omega)]
      exact ⟨_, rfl, m2, rfl, V.snoc (by omega) (by omega) (by omega) (by omega), by simp [hlen]⟩
    · rintro ⟨s1, rs⟩ ⟨m, h1, V, hlen⟩
      have h1 : s1 = [m] := h1
      subst h1
      have hlen : rs.length = j := hlen
      exact ⟨_, rfl, rs, m, rfl, V, by omega⟩
  obtain ⟨v, e, rs, m, rfl, V, hl⟩ := key
  exact ⟨rs, m, e, V, hl⟩
theorem point_ok (n : Int) {rs : Rds} {L : Nat} (V : Vr rs L) (hL : L ≤ 1000) (hl : rs.length ≤ 1000) : ∃ (q : Pt) (m : Int), l_point_f [n] rs = some (ip q, [m]) ∧ Vp rs q := by
  unfold l_point_f
  obtain ⟨j, n1, e1, hj⟩ := take_ok n ((rs.length : Int) + 1) (by omega) (by omega)
  simp only [e1, Option.bind_some]
  walk_at "pf"
  by_cases h : (j : Int) = 0
  · rw [if_pos h]
    exact ⟨(j, 0), _, rfl, Vp.node' (by omega)⟩
  · rw [if_neg h]
    obtain ⟨i, n2, e2, hi⟩ := take_ok n1 3 (by decide) (by decide)
    simp only [e2, Option.bind_some]
    by_cases h2 : (i : Int) = 0
    · rw [if_pos h2]
      exact ⟨(j, 0), _, rfl, Vp.node' (by omega)⟩
    · rw [if_neg h2]
      obtain ⟨pa, le, eix, _, e4, h3, h4⟩ := road_at V (v := j) (by omega) (by omega)
      obtain ⟨u, n3, e3, hu⟩ := take_ok n2 le (by omega) (by omega)
      simp only [eix, Option.bind_some, e3]
      exact ⟨(j, u), _, rfl, by show j ≤ _; omega, by show u < len rs j; omega⟩
theorem climb_y {rs : Rds} {L : Nat} (V : Vr rs L) (hL : L ≤ 1000) (hl : rs.length ≤ 100) {p : Pt} (hp_ : Vp rs p) : l_climb_f rs (ip p) = some ((climb rs p).map ip) := by
  refine run_eq ?_
  unfold l_climb_f
  have h1 := ht_sum V p.1 hp_.1
  have h2 := sum_take_le rs V p.1
  have h3 := sum_le V
  have h4 := sum_nonneg V
  have h5 : (L : Int) * rs.length ≤ 100000 := by
    have := Nat.mul_le_mul hL hl
    have : ((L * rs.length : Nat) : Int) ≤ 100000 := by omega
    rw [Int.natCast_mul] at this; exact this
  have h6 : hp rs p ≤ ht rs p.1 := by unfold hp; omega
  obtain ⟨S, hS⟩ : ∃ S : Nat, (rs.map fun x : Int × Int => x.2).sum = (S : Int) := ⟨(rs.map fun x : Int × Int => x.2).sum.toNat, by omega⟩
  rw [cap_ok (by omega), lcO_map (G := fun x : Int × Int => x.2) rs (fun _ _ => rfl) (fun _ _ => rfl), Option.bind_some, hS, rng_ok (by omega), Option.bind_some]
  refine Run.elim (forL_rng (n := ((1 : Int) + (S : Int)).toNat) (g := fun (i : Nat) => (i : Int)) (fun i s => i ≤ hp rs p ∧ s = (((climb rs p).take i).map ip, ((sts rs i p).1 : Int), ((sts rs i p).2 : Int))) (fun r => r = (climb rs p).map ip) ⟨Nat.zero_le _, rfl⟩ ?_) ?_ ?_
  · rintro i s hi ⟨hi2, rfl⟩
    have hv := hp_.sts_ok (k := i)
    have hh := hp_.hp_sts (k := i) hi2
    have hc : (climb rs p).take (i + 1) = (climb rs p).take i ++ [sts rs i p] := by
      have hlt : i < (climb rs p).length := by rw [climb_len]; omega
      rw [List.take_succ_eq_append_getElem hlt]
      have := climb_at (rs := rs) (p := p) (k := i) hi2
      rw [List.getElem?_eq_getElem hlt] at this
      rw [Option.some.inj this]
    dsimp only
    rw [appO_ok (by rw [List.length_map, List.length_take]; have := climb_len rs p; omega), Option.bind_some]
    have e0 : List.map ip (List.take i (climb rs p)) ++ [(((sts rs i p).1 : Int), ((sts rs i p).2 : Int))] = List.map ip (List.take (i + 1) (climb rs p)) := by rw [hc, List.map_append]; rfl
    rw [e0]
    by_cases h0 : (sts rs i p).1 = 0
    · rw [if_pos (decide_eq_true (by omega))]
      have e1 : hp rs (sts rs i p) = 0 := by rw [hv.zero h0, hp_zero]
      refine ⟨_, rfl, ?_⟩
      show _ = _
      rw [List.take_of_length_le (by rw [climb_len]; omega)]
    · rw [if_neg (by simpa using h0)]
      obtain ⟨pa, le, eix, e2, e1, _⟩ := road_at V (v := (sts rs i p).1) h0 hv.1
      have hpos := hv.hp_pos h0
      have hst : sts rs (i + 1) p = st rs (sts rs i p) := (sts_one rs i p).symm
      simp only [eix, Option.bind_some]
      by_cases h7 : (sts rs i p).2 + 1 = len rs (sts rs i p).1
      · rw [if_pos (decide_eq_true (by omega))]
        refine ⟨_, rfl, by omega, ?_⟩
        rw [hst]
        unfold st
        rw [if_neg h0, if_pos h7, ← e2]
        rfl
      · rw [if_neg (by simp; omega)]
        refine ⟨_, rfl, by omega, ?_⟩
        rw [hst]
        unfold st
        rw [if_neg h0, if_neg h7]
        rfl
  · rintro t ⟨hc, _⟩
    exfalso
    omega
  · rintro r rfl
    exact ⟨_, rfl, rfl⟩
theorem hp_small {rs : Rds} {L : Nat} (V : Vr rs L) (hL : L ≤ 1000) (hl : rs.length ≤ 100) {p : Pt} (hp_ : Vp rs p) : hp rs p ≤ 100000 := by
  have h1 := ht_sum V p.1 hp_.1
  have h2 := sum_take_le rs V p.1
  have h3 := sum_le V
  have h5 : (L : Int) * rs.length ≤ 100000 := by
    have := Nat.mul_le_mul hL hl
    have : ((L * rs.length : Nat) : Int) ≤ 100000 := by omega
    rw [Int.natCast_mul] at this; exact this
  unfold hp; omega
theorem way_y {rs : Rds} {L : Nat} (V : Vr rs L) (hL : L ≤ 1000) (hl : rs.length ≤ 100) {p q : Pt} (hp_ : Vp rs p) (hq_ : Vp rs q) : l_way_f rs (ip p) (ip q) = some ((way rs p q).map ip) := by
  refine run_eq ?_
  unfold l_way_f
  rw [climb_y V hL hl hp_, Option.bind_some, climb_y V hL hl hq_, Option.bind_some]
  have cp := climb_len rs p
  have cq := climb_len rs q
  have jl := jn_le rs p q
  refine Run.elim (whL_run (fun s => ∃ j, j ≤ jn rs p q ∧ s = (((climb rs p).take (hp rs p + 1 - j)).map ip, ((climb rs q).take (hp rs q + 1 - j)).map ip)) (fun s => s.1.length)
    (fun s => s = (((climb rs p).take (hp rs p + 1 - jn rs p q)).map ip, ((climb rs q).take (hp rs q + 1 - jn rs p q)).map ip)) (fun _ => False) ?_ _ ⟨0, Nat.zero_le _, ?_⟩) ?_ ?_
  · rintro s ⟨j, hj, rfl⟩
    have l1 : (((climb rs p).take (hp rs p + 1 - j)).map ip).length = hp rs p + 1 - j := by rw [List.length_map, List.length_take]; omega
    have l2 : (((climb rs q).take (hp rs q + 1 - j)).map ip).length = hp rs q + 1 - j := by rw [List.length_map, List.length_take]; omega
    simp only [l1, l2, bind_id]
    by_cases h1 : (1 : Int) < ((hp rs p + 1 - j : Nat) : Int)
    · rw [if_pos (decide_eq_true h1)]
      by_cases h2 : (1 : Int) < ((hp rs q + 1 - j : Nat) : Int)
      · rw [if_pos (decide_eq_true h2)]
        have g1 : (((climb rs p).take (hp rs p + 1 - j)).map ip)[hp rs p + 1 - j - 2]? = some (ip (sts rs (hp rs p - (j + 1)) p)) := by
          rw [List.getElem?_map, List.getElem?_take, if_pos (by omega), climb_at (by omega), show hp rs p + 1 - j - 2 = hp rs p - (j + 1) by omega]; rfl
        have g2 : (((climb rs q).take (hp rs q + 1 - j)).map ip)[hp rs q + 1 - j - 2]? = some (ip (sts rs (hp rs q - (j + 1)) q)) := by
          rw [List.getElem?_map, List.getElem?_take, if_pos (by omega), climb_at (by omega), show hp rs q + 1 - j - 2 = hp rs q - (j + 1) by omega]; rfl
        rw [idx_m2 (by rw [l1]; omega), l1, g1, Option.bind_some, idx_m2 (by rw [l2]; omega), l2, g2, Option.bind_some]
        have mi := meet_iff hp_ hq_ (t := j + 1) (by omega) (by omega)
        refine ⟨_, rfl, ?_⟩
        by_cases h3 : j + 1 ≤ jn rs p q
        · left
          have e1 : ip (sts rs (hp rs p - (j + 1)) p) = ip (sts rs (hp rs q - (j + 1)) q) := by rw [mi.mpr h3]
          refine ⟨decide_eq_true e1, ?_⟩
          unfold popO
          rw [l1, l2, List.getElem?_eq_getElem (by rw [l1]; omega), List.getElem?_eq_getElem (by rw [l2]; omega), Option.bind_some, Option.bind_some]
          refine ⟨_, rfl, ⟨j + 1, h3, ?_⟩, ?_⟩
          · rw [List.dropLast_eq_take, List.dropLast_eq_take, l1, l2, ← List.map_take, ← List.map_take, List.take_take, List.take_take, show min (hp rs p + 1 - j - 1) (hp rs p + 1 - j) = hp rs p + 1 - (j + 1) by omega, show min (hp rs q + 1 - j - 1) (hp rs q + 1 - j) = hp rs q + 1 - (j + 1) by omega]
          · show (((climb rs p).take (hp rs p + 1 - j)).map ip).dropLast.length < hp rs p + 1 - j
            rw [List.length_dropLast, l1]; omega
        · right
          have e1 : ¬ ip (sts rs (hp rs p - (j + 1)) p) = ip (sts rs (hp rs q - (j + 1)) q) := fun e => h3 (mi.mp (ip_inj e))
          refine ⟨decide_eq_false e1, ?_⟩
          rw [show jn rs p q = j by omega]
      · rw [if_neg (by simp only [decide_eq_true_eq]; exact h2)]
        exact ⟨_, rfl, .inr ⟨rfl, by rw [show jn rs p q = j by omega]⟩⟩
    · rw [if_neg (by simp only [decide_eq_true_eq]; exact h1)]
      exact ⟨_, rfl, .inr ⟨rfl, by rw [show jn rs p q = j by omega]⟩⟩
  · rw [List.take_of_length_le (by omega), List.take_of_length_le (by omega)]
  · rintro s rfl
    have l2 : (((climb rs q).take (hp rs q + 1 - jn rs p q)).map ip).length = hp rs q + 1 - jn rs p q := by rw [List.length_map, List.length_take]; omega
    have b1 := hp_small V hL hl hp_
    have b2 := hp_small V hL hl hq_
    show Run ((slcB (((climb rs q).take (hp rs q + 1 - jn rs p q)).map ip) (-(1 : Int))).bind _) _
    rw [slcB_m1 _ (by rw [l2]; omega), Option.bind_some]
    show Run ((catl (((climb rs p).take (hp rs p + 1 - jn rs p q)).map ip) _).bind _) _
    rw [catl_ok (by rw [List.length_reverse, List.length_take, l2, List.length_map, List.length_take]; omega), Option.bind_some]
    refine ⟨_, rfl, ?_⟩
    rw [l2, ← List.map_take, List.take_take, ← List.map_reverse, ← List.map_append, show min (hp rs q + 1 - jn rs p q - 1) (hp rs q + 1 - jn rs p q) = hp rs q - jn rs p q by omega]
    rfl
  · rintro r h
    exact h.elim
theorem len_y (rs : Rds) : T_len_f (mk rs) = some ((rs.length + 1 : Nat) : Int) := by
  unfold T_len_f
  simp [mk]
theorem roads_y (rs : Rds) : T_roads_f (mk rs) = some rs := by
  unfold T_roads_f
  rw [show ((1 : Int)) = ((1 : Nat) : Int) from rfl, slcA_nat, Option.bind_some, slcA_nat, Option.bind_some]
  show some ((rs.map fun x : Int × Int => x.1).zip (rs.map fun x : Int × Int => x.2)) = some rs
  have : ∀ l : Rds, (l.map fun x : Int × Int => x.1).zip (l.map fun x : Int × Int => x.2) = l := by
    intro l
    induction l with
    | nil => rfl
    | cons x l ih => rw [List.map_cons, List.map_cons, List.zip_cons_cons, ih]
  rw [this]
section
variable {rs : Rds} {L : Nat}
theorem mk_psl (rs : Rds) : (mk rs).ps.length = rs.length + 1 := by
  show (0 :: rs.map fun x : Int × Int => x.1).length = _
  rw [List.length_cons, List.length_map]
theorem mk_psi (V : Vr rs (L : Int)) {v : Nat} (h : v ≤ rs.length) : idx (mk rs).ps (v : Int) = some (par rs v : Int) := idx_nat (mk_ps V h)
theorem mk_lsi (V : Vr rs (L : Int)) {v : Nat} (h : v ≤ rs.length) : idx (mk rs).ls (v : Int) = some (len rs v : Int) := idx_nat (mk_ls V h)
theorem linked_y (V : Vr rs (L : Int)) (hl : rs.length ≤ 900) {a : Nat} (ha : a ≤ rs.length) : T_linked_f (mk rs) (a : Int) = some (cL (linkL rs a)) := by
  unfold T_linked_f
  rw [mk_psl, rng2_ok (by omega), Option.bind_some, show (((rs.length + 1 : Nat) : Int) - 1).toNat = rs.length by omega, cap_ok (by rw [List.length_map, List.length_range]; omega), lcO_map']
  rw [lcO_eq (P := fun i => decide (par rs (1 + i) = a)) (G := fun i : Nat => (1 : Int) + (i : Int)) _ (fun i hi => by
    have hi := List.mem_range.mp hi
    rw [show (1 : Int) + (i : Int) = ((1 + i : Nat) : Int) by omega, mk_psi V (by omega), Option.bind_some]
    congr 1
    exact decide_eq_decide.mpr (by omega)) (fun i _ _ => rfl), Option.bind_some]
  have e : ((List.range rs.length).filter fun i => decide (par rs (1 + i) = a)).map (fun i : Nat => (1 : Int) + (i : Int)) = cL (((List.range rs.length).map (1 + ·)).filter fun b => decide (par rs b = a)) := by
    unfold cL
    rw [List.filter_map, List.map_map]
    refine List.map_congr_left fun i _ => ?_
    show (1 : Int) + (i : Int) = ((1 + i : Nat) : Int)
    omega
  rw [e]
  unfold linkL
  have fl : (((List.range rs.length).map (1 + ·)).filter fun b => decide (par rs b = a)).length ≤ 900 := Nat.le_trans (List.length_filter_le _ _) (by rw [List.length_map, List.length_range]; exact hl)
  by_cases z : 0 < a
  · rw [if_pos (by simpa using z), if_pos z, mk_psi V ha, Option.bind_some, catl_ok (by rw [cL_len]; simp; omega), Option.bind_some, cL_app]
    rfl
  · rw [if_neg (by simpa using z), if_neg z]
    rfl
theorem memB_cL {x : Nat} {xs : List Nat} : memB (x : Int) (cL xs) = decide (x ∈ xs) := by
  rw [memB_eq]
  refine decide_eq_decide.mpr ?_
  unfold cL
  rw [List.mem_map]
  exact ⟨fun ⟨y, hy, e⟩ => by rw [show x = y by omega]; exact hy, fun h => ⟨x, h, rfl⟩⟩
theorem linkL_len {a : Nat} (ha : a ≤ rs.length) : (linkL rs a).length ≤ rs.length + 1 := by
  have := len_le_of (xs := linkL rs a) (ys := List.range (rs.length + 1)) linkL_nd fun b hb => List.mem_range.mpr (by have := ((linkL_mem ha).mp hb).1; omega)
  rwa [List.length_range] at this
theorem cL_of {ys : List Int} {xs : List Nat} (h : ys.Perm (cL xs)) : ∃ zs : List Nat, ys = cL zs ∧ zs.Perm xs := by
  refine ⟨ys.map Int.toNat, ?_, ?_⟩
  · unfold cL
    rw [List.map_map]
    refine (List.map_id' ys).symm.trans (List.map_congr_left fun y hy => ?_)
    obtain ⟨x, _, rfl⟩ := List.mem_map.mp (h.mem_iff.mp hy)
    rfl
  · have := h.map Int.toNat
    unfold cL at this
    rw [List.map_map, show (Int.toNat ∘ fun n : Nat => (n : Int)) = fun n => n from rfl, List.map_id'] at this
    exact this
theorem row_y (V : Vr rs (L : Int)) (hl : rs.length ≤ 900) {O : List Nat} : ∀ (R acc : List Nat), (∀ u ∈ R, u ≤ rs.length) → acc.length + R.length * 901 ≤ 1000000 →
    forM (fun (s_2 : List Int) (upper_3 : Int) => (T_linked_f (mk rs) upper_3).bind fun y_6 => (cap y_6 (lcO (fun (mate_7 : Int) => some (!memB mate_7 (cL O))) (fun mate_7 => some mate_7) y_6)).bind fun ys_8 => (extO s_2 ys_8).bind fun below_9 => some below_9) (cL R) (cL acc) = some (cL (acc ++ nextL rs O R))
  | [], acc, _, _ => by
    show some (cL acc) = some (cL (acc ++ []))
    rw [List.append_nil]
  | u :: R, acc, hR, hn => by
    have hu := hR u List.mem_cons_self
    have ll := linkL_len hu
    have fl : ((linkL rs u).filter fun m => decide (m ∉ O)).length ≤ 901 := Nat.le_trans (List.length_filter_le _ _) (by omega)
    rw [List.length_cons] at hn
    have ih := row_y V hl (O := O) R (acc ++ (linkL rs u).filter fun m => decide (m ∉ O)) (fun w hw => hR w (List.mem_cons_of_mem _ hw)) (by rw [List.length_append]; omega)
    have one : cap (cL (linkL rs u)) (lcO (fun (mate_7 : Int) => some (!memB mate_7 (cL O))) (fun mate_7 => some mate_7) (cL (linkL rs u))) = some (cL ((linkL rs u).filter fun m => decide (m ∉ O))) := by
      rw [cap_ok (by rw [cL_len]; omega)]
      unfold cL
      rw [lcO_map', lcO_eq (P := fun m => decide (m ∉ O)) (G := fun m : Nat => (m : Int)) _ (fun m _ => by
        rw [show (O.map fun n : Nat => (n : Int)) = cL O from rfl, memB_cL]
        simp) (fun _ _ _ => rfl)]
    show ((T_linked_f (mk rs) (u : Int)).bind _).bind _ = _
    rw [linked_y V hl hu, Option.bind_some, one, Option.bind_some, extO_ok (by rw [cL_len, cL_len]; omega), Option.bind_some, Option.bind_some, ← cL_app]
    refine ih.trans ?_
    rw [List.append_assoc]
    rfl
theorem numbering_y (V : Vr rs (L : Int)) (hl : rs.length ≤ 900) {r : Nat} (hr : r ≤ rs.length) : ∃ O, T_numbering_f (mk rs) (r : Int) = some (cL O) ∧ FullO rs O := by
  have key : Run (T_numbering_f (mk rs) (r : Int)) fun v => ∃ O, v = cL O ∧ FullO rs O := by
    unfold T_numbering_f
    refine Run.elim (whL_run (fun t => ∃ O R, t = (cL O, cL R) ∧ Bfs rs O R) (fun t => 2 * (rs.length + 2 - t.1.length) + if t.2 = [] then 0 else 1) (fun t => ∃ O, t = (cL O, ([] : List Int)) ∧ FullO rs O) (fun _ => False) ?_ _ ?_) ?_ (fun _ h => h.elim)
    · rintro _ ⟨O, R, rfl, B⟩
      by_cases z : R = []
      · subst z
        refine ⟨false, ?_, .inr ⟨rfl, O, rfl, B.full⟩⟩
        rfl
      · refine ⟨true, ?_, .inl ⟨rfl, ?_⟩⟩
        · have : cL R ≠ [] := by unfold cL; simpa using z
          simp [this]
        · have Ol := B.lenle
          have Rl : R.length ≤ rs.length + 1 := by
            have := len_le_of (xs := R) (ys := List.range (rs.length + 1)) B.rn fun v hv => List.mem_range.mpr (by have := B.le v (B.sub v hv); omega)
            rwa [List.length_range] at this
          have rw1 : forM _ (cL R) ([] : List Int) = _ := row_y V hl (O := O) R [] (fun u hu => B.le u (B.sub u hu)) (by have := Nat.mul_le_mul_right 901 Rl; simp; omega)
          obtain ⟨ys, s1, s2, _⟩ := sortI_perm (cL ([] ++ nextL rs O R))
          obtain ⟨R', rfl, p⟩ := cL_of s2
          rw [List.nil_append] at p
          have B' := B.step p
          have Ol' := B'.lenle
          rw [List.length_append] at Ol'
          dsimp only
          rw [rw1, Option.bind_some, s1, Option.bind_some, extO_ok (by rw [cL_len, cL_len]; omega), Option.bind_some]
          refine ⟨_, rfl, ⟨O ++ R', R', by rw [cL_app], B'⟩, ?_⟩
          dsimp only
          rw [List.length_append, cL_len, cL_len]
          have nz : cL R ≠ [] := by unfold cL; simpa using z
          rw [if_neg nz]
          cases R' with
          | nil =>
            rw [if_pos (show cL [] = [] from rfl), List.length_nil]
            omega
          | cons x xs =>
            have : cL (x :: xs) ≠ [] := by unfold cL; simp
            rw [if_neg this]
            rw [List.length_cons] at Ol' ⊢
            omega
    · exact ⟨[r], [r], rfl, Bfs.start hr⟩
    · rintro _ ⟨O, rfl, F⟩
      exact ⟨_, rfl, O, rfl, F⟩
  obtain ⟨v, e, O, rfl, F⟩ := key
  exact ⟨O, e, F⟩
theorem idx_head {xs : List Nat} (h : xs ≠ []) : idx (cL xs) (0 : Int) = some ((xs.headD 0 : Nat) : Int) := by
  cases xs with
  | nil => exact absurd rfl h
  | cons x xs => exact idx_nat (j := 0) rfl
theorem oi_idx {O : List Nat} {k : Nat} (h : k < O.length) : idx (cL O) (k : Int) = some (oi O k : Int) := idx_nat (by unfold cL; rw [List.getElem?_map, oi_get h]; rfl)
theorem hung_y (V : Vr rs (L : Int)) (hL : 1 ≤ L) (hl : rs.length ≤ 900) {r : Nat} {O : List Nat} (e : T_numbering_f (mk rs) (r : Int) = some (cL O)) (F : FullO rs O) : T_hung_f (mk rs) (r : Int) = some (mk (hungR rs O)) := by
  refine run_eq ?_
  unfold T_hung_f
  rw [e, Option.bind_some, cL_len, F.ln, rng2_ok (by omega), Option.bind_some, show (((rs.length + 1 : Nat) : Int) - 1).toNat = rs.length by omega]
  refine Run.bind (forM_rng (n := rs.length) (g := fun (i : Nat) => (1 : Int) + (i : Int)) (fun j t => t = (hungR rs O).take j) rfl ?_) ?_
  · rintro j _ hj rfl
    have hj1 : j + 1 < O.length := by rw [F.ln]; omega
    obtain ⟨h1, h2⟩ := parO_ok F.toOrds (k := j + 1) (by omega) hj1
    have lj := F.lo (k := j + 1) (by omega)
    have lp := F.lo (k := parO rs O (j + 1)) (by omega)
    have eP : oi O (j + 1) ≤ rs.length := lj
    rw [show (1 : Int) + (j : Int) = ((j + 1 : Nat) : Int) by omega, rng_ok (by omega), Option.bind_some, Int.toNat_natCast, cap_ok (by rw [List.length_map, List.length_range]; omega)]
    rw [lcO_rng (fun m => decide (Adj rs (oi O m) (oi O (j + 1)))) (fun m => (m : Int)) (fun m hm => by
      rw [oi_idx (by omega), Option.bind_some, oi_idx hj1, Option.bind_some, linked_y V hl lj, Option.bind_some, memB_cL]
      congr 1
      exact decide_eq_decide.mpr ((linkL_mem lj).trans ⟨fun z => z.2.symm, fun z => ⟨F.lo (by omega), z.symm⟩⟩)) fun _ _ _ => rfl, Option.bind_some]
    have ne : (List.range (j + 1)).filter (fun m => decide (Adj rs (oi O m) (oi O (j + 1)))) ≠ [] := fun z => by
      have : parO rs O (j + 1) ∈ (List.range (j + 1)).filter fun m => decide (Adj rs (oi O m) (oi O (j + 1))) := List.mem_filter.mpr ⟨List.mem_range.mpr h1, decide_eq_true h2⟩
      rw [z] at this; cases this
    have hd := idx_head ne
    rw [show ((List.range (j + 1)).filter fun m => decide (Adj rs (oi O m) (oi O (j + 1)))).headD 0 = parO rs O (j + 1) from rfl] at hd
    unfold cL at hd
    rw [hd, Option.bind_some]
    rw [oi_idx (by omega), Option.bind_some, oi_idx hj1, Option.bind_some]
    have ch : ∃ c : Nat, ((if decide ((0 : Int) < (oi O (j + 1) : Int)) = true then (idx (mk rs).ps (oi O (j + 1) : Int)).bind fun x_15 => some (decide (x_15 = (oi O (parO rs O (j + 1)) : Int))) else some false).bind fun b_16 => (if b_16 = true then some (oi O (j + 1) : Int) else some (oi O (parO rs O (j + 1)) : Int))) = some (c : Int) ∧ c ≤ rs.length ∧ len rs c = eL rs (oi O (parO rs O (j + 1))) (oi O (j + 1)) := by
      by_cases z : 0 < oi O (j + 1)
      · rw [if_pos (by simpa using z), mk_psi V lj, Option.bind_some, Option.bind_some]
        by_cases y : par rs (oi O (j + 1)) = oi O (parO rs O (j + 1))
        · rw [if_pos (decide_eq_true (by rw [y]))]
          refine ⟨_, rfl, lj, ?_⟩
          rcases adj_len h2 lp lj with ⟨_, _, q⟩ | ⟨q1, q2, _⟩
          · exact q.symm
          · have := par_lt (rs := rs) q1
            have := par_lt (rs := rs) (v := oi O (j + 1)) (by omega)
            omega
        · rw [if_neg (fun q => y (Int.ofNat.inj (of_decide_eq_true q)) : ¬ (decide ((par rs (oi O (j + 1)) : Int) = (oi O (parO rs O (j + 1)) : Int)) = true))]
          refine ⟨_, rfl, lp, ?_⟩
          rcases adj_len h2 lp lj with ⟨_, q, _⟩ | ⟨_, _, q⟩
          · exact absurd q y
          · exact q.symm
      · rw [if_neg (by simpa using z), Option.bind_some, if_neg (by decide)]
        refine ⟨_, rfl, lp, ?_⟩
        rcases adj_len h2 lp lj with ⟨q, _, _⟩ | ⟨_, _, q⟩
        · omega
        · exact q.symm
    obtain ⟨c, c1, c2, c3⟩ := ch
    have re : ∀ {α β : Type} {o : Option Bool} {f : Bool → Option α} {g : α → Option β}, (o.bind fun b => (f b).bind g) = (o.bind f).bind g := fun {α β o f g} => by cases o <;> rfl
    rw [re, c1, Option.bind_some, Option.bind_some, mk_lsi V c2, Option.bind_some, appO_ok (by rw [List.length_take, hungR_len]; omega), Option.bind_some]
    refine ⟨_, rfl, ?_⟩
    have at' := hungR_at (rs := rs) (O := O) hj
    rw [List.take_add_one, at', c3]
    rfl
  · rintro _ rfl
    rw [List.take_of_length_le (by rw [hungR_len]; exact Nat.le_refl _), init_f (hungR_vr F V hL) (by rw [hungR_len]; omega), Option.bind_some]
    exact ⟨_, rfl, rfl⟩
theorem hung_point_y (V : Vr rs (L : Int)) {r : Nat} {O : List Nat} (e : T_numbering_f (mk rs) (r : Int) = some (cL O)) (F : FullO rs O) {p : Pt} (vp : Vp rs p) : T_hung_point_f (mk rs) (r : Int) (ip p) = some (ip (hungP rs O p)) := by
  have pv : par rs p.1 ≤ rs.length := Nat.le_trans (par_le rs p.1) vp.1
  have hv : p.1 ≤ rs.length := vp.1
  have hu : p.2 < len rs p.1 := vp.2
  have i1 : indexOf (cL O) (p.1 : Int) = some ((ix O p.1 : Nat) : Int) := indexOf_cast (F.all _ hv)
  have i2 : indexOf (cL O) (par rs p.1 : Int) = some ((ix O (par rs p.1) : Nat) : Int) := indexOf_cast (F.all _ pv)
  unfold T_hung_point_f hungP
  show (T_numbering_f _ _).bind (fun y_1 => if (decide ((p.2 : Int) = (0 : Int))) = true then (indexOf y_1 (p.1 : Int)).bind fun x_2 => some (x_2, (0 : Int)) else (indexOf y_1 (p.1 : Int)).bind fun x_3 => (idx (mk rs).ps (p.1 : Int)).bind fun x_4 => (indexOf y_1 x_4).bind fun x_5 => if (decide (x_5 < x_3)) = true then some (x_3, (p.2 : Int)) else (idx (mk rs).ls (p.1 : Int)).bind fun x_6 => some (x_5, (x_6 - (p.2 : Int)))) = _
  rw [e, Option.bind_some]
  by_cases z : p.2 = 0
  · rw [if_pos (by simpa using z), if_pos z, i1]
    rfl
  · rw [if_neg (by simpa using z), if_neg z, i1, Option.bind_some, mk_psi V hv, Option.bind_some, i2, Option.bind_some]
    by_cases l : ix O (par rs p.1) < ix O p.1
    · rw [if_pos (by simpa using l), if_pos l]
      rfl
    · rw [if_neg (by simpa using l), if_neg l, mk_lsi V hv, Option.bind_some]
      show some (((ix O (par rs p.1) : Nat) : Int), (len rs p.1 : Int) - (p.2 : Int)) = some (((ix O (par rs p.1) : Nat) : Int), ((len rs p.1 - p.2 : Nat) : Int))
      rw [show (len rs p.1 : Int) - (p.2 : Int) = ((len rs p.1 - p.2 : Nat) : Int) by omega]
end
end Lm
namespace Lm
open Lw Sm PySem Tw
local macro_rules | `(tactic| walk_at "pf") => `(tactic| simp only [Option.bind_some, Option.bind_none, decide_eq_true_eq, Bool.and_eq_true, Bool.or_eq_true, Bool.not_eq_true', decide_eq_false_iff_not, Bool.false_eq_true, Bool.true_eq_false, if_true, if_false, ite_true, ite_false, idx0, setAt0, elim_nx, elim_rt, elim_bk, Bool.not_true, Bool.not_false, Bool.and_true, Bool.true_and, Bool.and_false, Bool.false_and, Bool.or_true, Bool.true_or, Bool.or_false, Bool.false_or, bind_id, ipow_18', List.nil_append, ge_iff_le, gt_iff_lt])
section
variable {rs : Rds} {L : Nat}
def wS (rs : Rds) (ps : List Pt) : List (List (List (Int × Int))) := ps.map fun a => ps.map fun b => (way rs a b).map ip
theorem wS_at {ps : List Pt} {i j : Nat} (hi : i < ps.length) (hj : j < ps.length) : idx (wS rs ps) (i : Int) = some (ps.map fun b => (way rs (at_ ps i) b).map ip) ∧ idx (ps.map fun b => (way rs (at_ ps i) b).map ip) (j : Int) = some ((way rs (at_ ps i) (at_ ps j)).map ip) := by
  refine ⟨idx_nat ?_, idx_nat ?_⟩
  · unfold wS
    rw [List.getElem?_map, at_get hi]; rfl
  · rw [List.getElem?_map, at_get hj]; rfl
theorem gA {ps : List Pt} {g : Pt → Pt} {i : Nat} (hi : i < ps.length) : idx ((ps.map g).map ip) (i : Int) = some (ip (g (at_ ps i))) := idx_nat (by rw [List.getElem?_map, List.getElem?_map, at_get hi]; rfl)
theorem same_y {rs' : Rds} {L' : Nat} {g : Pt → Pt} (V' : Vr rs' (L' : Int)) (S : Simi rs rs' g 1) {ps : List Pt} (h6 : ps.length = 6) (vp : Vc rs ps) : l_same_f (mk rs') ((ps.map g).map ip) (wS rs ps) = some true := by
  unfold l_same_f
  have v : ∀ i, i < 6 → Vp rs (at_ ps i) := fun i hi => vp.at_ (by omega)
  have dg : ∀ i j, i < 6 → j < 6 → T_distance_f (mk rs') (ip (g (at_ ps i))) (ip (g (at_ ps j))) = some (dist rs (at_ ps i) (at_ ps j) : Int) := fun i j hi hj => by
    rw [distance_f V' (S.vp _ (v i hi)) (S.vp _ (v j hj)), S.ds _ _ (v i hi) (v j hj), Nat.one_mul]
  rw [rng_ok (by decide), Option.bind_some, show ((6 : Int)).toNat = 6 from rfl, forL_all fun x hx => ?_]
  · simp only [Option.bind_some, Lp.elim]
    rw [forL_all fun x hx => ?_]
    · rfl
    · obtain ⟨i, hi, rfl⟩ := List.mem_map.mp hx
      have hi := List.mem_range.mp hi
      rw [rng_ok (by omega), Option.bind_some, Int.toNat_natCast, forL_all fun y hy => ?_]
      · rfl
      · obtain ⟨j, hj, rfl⟩ := List.mem_map.mp hy
        have hj := List.mem_range.mp hj
        obtain ⟨t, ht1, ht2⟩ := imod_nn (n := (i : Int) + 2 * (j : Int) + 1) (k := 6) (by decide)
        have t6 : t < 6 := by omega
        have w := fun a b (ha : a < 6) (hb : b < 6) => wS_at (rs := rs) (ps := ps) (i := a) (j := b) (by omega) (by omega)
        rw [imul_l (by decide), Option.bind_some, ht1, Option.bind_some, (w i t hi t6).1, Option.bind_some, (w i t hi t6).2, Option.bind_some, (w t j t6 (by omega)).1, Option.bind_some, (w t j t6 (by omega)).2, Option.bind_some, Option.bind_some, (w i j hi (by omega)).2, Option.bind_some]
        rw [gA (by omega), Option.bind_some, gA (by omega), Option.bind_some, gA (by omega), Option.bind_some, on_way_f V' (S.vp _ (v t t6)) (S.vp _ (v i hi)) (S.vp _ (v j (by omega))), Option.bind_some, ofRawB_at, Option.bind_some]
        rw [S.ds _ _ (v i hi) (v t t6), S.ds _ _ (v t t6) (v j (by omega)), S.ds _ _ (v i hi) (v j (by omega)), Nat.one_mul, Nat.one_mul, Nat.one_mul, List.length_map, List.length_map, List.length_map, way_len, way_len, way_len]
        rw [if_neg]
        rw [show decide (((dist rs (at_ ps i) (at_ ps t) + 1 : Nat) : Int) + ((dist rs (at_ ps t) (at_ ps j) + 1 : Nat) : Int) = ((dist rs (at_ ps i) (at_ ps j) + 1 : Nat) : Int) + 1) = decide (dist rs (at_ ps i) (at_ ps t) + dist rs (at_ ps t) (at_ ps j) = dist rs (at_ ps i) (at_ ps j)) from decide_eq_decide.mpr (by omega)]
        simp
  · obtain ⟨i, hi, rfl⟩ := List.mem_map.mp hx
    have hi := List.mem_range.mp hi
    rw [Option.bind_some, forL_all fun y hy => ?_]
    · rfl
    · obtain ⟨j, hj, rfl⟩ := List.mem_map.mp hy
      have hj := List.mem_range.mp hj
      have w := wS_at (rs := rs) (ps := ps) (i := i) (j := j) (by omega) (by omega)
      rw [w.1, Option.bind_some, w.2, Option.bind_some, gA (by omega), Option.bind_some, gA (by omega), Option.bind_some, dg i j hi hj, Option.bind_some, List.length_map, way_len, show ((dist rs (at_ ps i) (at_ ps j) + 1 : Nat) : Int) - 1 = (dist rs (at_ ps i) (at_ ps j) : Int) by omega]
      rw [show l_whole_f (dist rs (at_ ps i) (at_ ps j) : Int) = some true from rfl, Option.bind_some, if_neg (by decide), ofRawN_at, Option.bind_some, if_neg (by simp), Option.bind_some, Option.bind_some, Option.bind_some]
      rw [show decide (ip (g (at_ ps i)) = ip (g (at_ ps j))) = decide ((dist rs (at_ ps i) (at_ ps j) : Int) = 0) from decide_eq_decide.mpr ⟨fun e => by
        have := S.inj (v i hi) (v j hj) (ip_inj e)
        rw [this, dist_self]; rfl, fun e => by
        rw [dist_zero (v i hi) (v j hj) (by omega)]⟩]
      rw [decide_eq_true rfl, Option.bind_some]
      rfl
theorem steps_y {rs' : Rds} {L' : Nat} (V : Vr rs (L : Int)) (V' : Vr rs' (L' : Int)) {r : Nat} {O : List Nat} (e : T_numbering_f (mk rs) (r : Int) = some (cL O)) (F : FullO rs O) (S : Simi rs rs' (hungP rs O) 1) {p q : Pt} (vp : Vp rs p) (vq : Vp rs q) :
    l_moved_steps_f (mk rs') (mk rs) (r : Int) (T4.mk (ip p) (ip q) (ip (hungP rs O p)) (ip (hungP rs O q))) (dist rs p q : Int) = some true := by
  unfold l_moved_steps_f
  have dv : ∀ k : Nat, 0 < k → k < 1073741824 → idiv (dist rs p q : Int) (k : Int) = some ((dist rs p q / k : Nat) : Int) := fun k h1 h2 => by
    rw [idiv_pos (by omega) (by omega)]; rfl
  rw [show (3 : Int) = ((3 : Nat) : Int) from rfl, dv 3 (by decide) (by decide), Option.bind_some, show (2 : Int) = ((2 : Nat) : Int) from rfl, dv 2 (by decide) (by decide), Option.bind_some, forL_all fun x hx => ?_]
  · rfl
  · obtain ⟨k, rfl, hk⟩ : ∃ k : Nat, x = (k : Int) ∧ k ≤ dist rs p q := by
      simp only [List.mem_cons, List.mem_nil_iff, or_false] at hx
      rcases hx with rfl | rfl | rfl | rfl
      · exact ⟨0, rfl, Nat.zero_le _⟩
      · exact ⟨_, rfl, Nat.div_le_self _ _⟩
      · exact ⟨_, rfl, Nat.div_le_self _ _⟩
      · exact ⟨_, rfl, Nat.le_refl _⟩
    have d := S.ds p q vp vq
    have t := S.tw vp vq hk
    rw [Nat.one_mul] at d t
    dsimp only
    rw [towards_y V vp vq hk, Option.bind_some, towards_y V' (S.vp _ vp) (S.vp _ vq) (by rw [d]; exact hk), Option.bind_some, hung_point_y V e F (tw_vp vp vq k), Option.bind_some, t, if_neg (by simp)]
theorem contains_y (V : Vr rs (L : Int)) {p : Pt} (vp : Vp rs p) : T_contains_f (mk rs) (ip p) = some true := by rw [contains_f V, inb_of vp]
theorem sum_y (rs : Rds) (hl : rs.length ≤ 1000) : cap rs (lcO (fun (pair_33 : (Int × Int)) => some true) (fun pair_33 => some pair_33.2) rs) = some (rs.map fun z => z.2) := by
  rw [cap_ok (by omega)]
  exact lcO_map (g := fun z : Int × Int => some z.2) (G := fun z => z.2) _ (fun _ _ => rfl) fun _ _ => rfl
theorem case_y (n : Int) : ∃ m : Int, l_case_f [n] = some (true, [m]) := by
  suffices h : Run (l_case_f [n]) fun v => ∃ m : Int, v = (true, [m]) by
    obtain ⟨_, e, m, rfl⟩ := h
    exact ⟨m, e⟩
  unfold l_case_f
  obtain ⟨a, n1, e1, ha⟩ := take_ok n 4 (by decide) (by decide)
  obtain ⟨M, eM, hM1, hM2⟩ : ∃ M : Nat, idx ((1 : Int) :: ((3 : Int) :: ((6 : Int) :: ((40 : Int) :: ([] : List Int))))) (a : Int) = some (M : Int) ∧ 1 ≤ M ∧ M ≤ 40 := by
    have h : a = 0 ∨ a = 1 ∨ a = 2 ∨ a = 3 := by omega
    rcases h with rfl | rfl | rfl | rfl
    · exact ⟨1, idx_nat rfl, by decide, by decide⟩
    · exact ⟨3, idx_nat rfl, by decide, by decide⟩
    · exact ⟨6, idx_nat rfl, by decide, by decide⟩
    · exact ⟨40, idx_nat rfl, by decide, by decide⟩
  obtain ⟨rs, n2, e2, V, hl⟩ := roads_ok n1 8 M (by decide) (by decide) hM1 (by omega)
  rw [e1, Option.bind_some]
  dsimp only
  rw [eM, Option.bind_some, show (8 : Int) = ((8 : Nat) : Int) from rfl, e2, Option.bind_some, rng_ok (by decide), Option.bind_some, show ((6 : Int)).toNat = 6 from rfl, cap_ok (by simp)]
  obtain ⟨⟨psI, s3⟩, e3, hp6, hpr, n3, hs3⟩ := lcS_run (p := fun (t_4 : List Int) (turn_6 : Int) => some true) (g := fun (t_4 : List Int) (turn_6 : Int) => (l_point_f t_4 rs).bind fun w_7 => some (w_7.1, w_7.2)) (fun t => ∃ m : Int, t = [m]) (fun y => ∃ q : Pt, y = ip q ∧ Vp rs q) ((List.range 6).map fun (i : Nat) => (i : Int)) [n2] ⟨n2, rfl⟩ (fun t ht x _ => ⟨rfl, by
    obtain ⟨k, ht⟩ := ht
    subst ht
    obtain ⟨q, m1, f, vq⟩ := point_ok k V (by omega) (by omega)
    rw [f]
    exact ⟨_, rfl, ⟨q, rfl, vq⟩, m1, rfl⟩⟩)
  have hs3 : s3 = [n3] := hs3
  subst hs3
  obtain ⟨ps, rfl, vps⟩ : ∃ ps : List Pt, psI = ps.map ip ∧ Vc rs ps := by
    have : ∀ xs : List (Int × Int), (∀ y ∈ xs, ∃ q : Pt, y = ip q ∧ Vp rs q) → ∃ ps : List Pt, xs = ps.map ip ∧ Vc rs ps := by
      intro xs
      induction xs with
      | nil => exact fun _ => ⟨[], rfl, fun q hq => by cases hq⟩
      | cons y ys ih =>
        intro h
        obtain ⟨q, rfl, vq⟩ := h y List.mem_cons_self
        obtain ⟨ps, rfl, vps⟩ := ih fun z hz => h z (List.mem_cons_of_mem _ hz)
        exact ⟨q :: ps, rfl, fun z hz => by
          rcases List.mem_cons.mp hz with rfl | hz
          · exact vq
          · exact vps z hz⟩
    exact this psI hpr
  have h6 : ps.length = 6 := by have : (ps.map ip).length = ((List.range 6).map fun (i : Nat) => (i : Int)).length := hp6; simpa using this
  rw [e3, Option.bind_some]
  dsimp only
  have wE : cap (ps.map ip) (lcO (fun (one_9 : (Int × Int)) => some true) (fun one_9 => (cap (ps.map ip) (lcO (fun (other_10 : (Int × Int)) => some true) (fun other_10 => (l_way_f rs one_9 other_10).bind fun y_11 => some y_11) (ps.map ip))).bind fun ys_12 => some ys_12) (ps.map ip)) = some (wS rs ps) := by
    rw [cap_ok (by rw [List.length_map]; omega), lcO_map', lcO_map (G := fun a => ps.map fun b => (way rs a b).map ip) ps (fun _ _ => rfl) fun p hp_ => ?_]
    · rfl
    · rw [cap_ok (by rw [List.length_map]; omega), lcO_map', lcO_map (G := fun b => (way rs p b).map ip) ps (fun _ _ => rfl) fun q hq => ?_, Option.bind_some]
      rw [way_y V (by omega) (by omega) (vps p hp_) (vps q hq), Option.bind_some]
  have s0 := same_y (rs := rs) V (Simi.id rs) h6 vps
  rw [List.map_id'] at s0
  rw [wE, Option.bind_some, init_f V (by omega), Option.bind_some, s0, Option.bind_some, if_neg (by decide)]
  obtain ⟨tn, n4, e4, htn⟩ := take_ok n3 4 (by decide) (by decide)
  rw [e4, Option.bind_some]
  dsimp only
  rw [show (1 : Int) + (tn : Int) = ((1 + tn : Nat) : Int) by omega, rng_ok (by omega), Option.bind_some, Int.toNat_natCast]
  refine Run.elim (forL_rng (g := fun (i : Nat) => (i : Int)) (fun _ s => ∃ (m : Int) (rs' : Rds) (g : Pt → Pt), s = ([m], mk rs', (ps.map g).map ip) ∧ Vr rs' (M : Int) ∧ rs'.length = rs.length ∧ Simi rs rs' g 1 ∧ (rs'.map fun z => z.2).sum = (rs.map fun z => z.2).sum) (fun _ => False) ⟨n4, rs, fun p => p, by rw [List.map_id'], V, rfl, Simi.id rs, rfl⟩ ?_) ?_ fun _ h => h.elim
  · rintro i _ hi ⟨m, rs', g, rfl, V', hl', S, sm⟩
    obtain ⟨r, m1, f1, hr⟩ := take_ok m ((rs.length : Int) + 1) (by omega) (by omega)
    dsimp only
    rw [f1, Option.bind_some]
    dsimp only
    obtain ⟨O, eO, F⟩ := numbering_y V' (by omega) (r := r) (by omega)
    have T := hung_simi F V' hM1
    have V2 := hungR_vr F V' hM1
    have l2 : (hungR rs' O).length = rs'.length := hungR_len
    have ST := S.comp T
    rw [Nat.one_mul] at ST
    have vg : ∀ k : Nat, k < 6 → Vp rs' (g (at_ ps k)) := fun k hk => S.vp _ (vps.at_ (by omega))
    have mv : cap ((ps.map g).map ip) (lcO (fun (point_22 : (Int × Int)) => some true) (fun point_22 => (T_hung_point_f (mk rs') (r : Int) point_22).bind fun y_23 => some y_23) ((ps.map g).map ip)) = some ((ps.map fun p => hungP rs' O (g p)).map ip) := by
      rw [cap_ok (by rw [List.length_map, List.length_map]; omega), lcO_map', lcO_map (G := fun p => ip (hungP rs' O p)) (ps.map g) (fun _ _ => rfl) fun p hp_ => ?_]
      · rw [List.map_map, List.map_map]; rfl
      · obtain ⟨q, hq, rfl⟩ := List.mem_map.mp hp_
        rw [hung_point_y V' eO F (S.vp _ (vps q hq)), Option.bind_some]
    have gz : ∀ k : Nat, k < 6 → idx ((ps.map fun p => hungP rs' O (g p)).map ip) (k : Int) = some (ip (hungP rs' O (g (at_ ps k)))) := fun k hk => gA (g := fun p => hungP rs' O (g p)) (by omega)
    have gy : ∀ k : Nat, k < 6 → idx ((ps.map g).map ip) (k : Int) = some (ip (g (at_ ps k))) := fun k hk => gA (by omega)
    have wz := fun a b (ha : a < 6) (hb : b < 6) => wS_at (rs := rs) (ps := ps) (i := a) (j := b) (by omega) (by omega)
    have g0 := gz 0 (by decide)
    have y0 := gy 0 (by decide)
    have g1 := gz 1 (by decide)
    have y1 := gy 1 (by decide)
    have y2 := gy 2 (by decide)
    have y3 := gy 3 (by decide)
    have g5 := gz 5 (by decide)
    have y5 := gy 5 (by decide)
    have w01 := wz 0 1 (by decide) (by decide)
    have w23 := wz 2 3 (by decide) (by decide)
    have dd : ∀ a b, a < 6 → b < 6 → dist rs' (g (at_ ps a)) (g (at_ ps b)) = dist rs (at_ ps a) (at_ ps b) := fun a b ha hb => by
      rw [S.ds _ _ (vps.at_ (by omega)) (vps.at_ (by omega)), Nat.one_mul]
    have st := steps_y V' V2 eO F T (vg 0 (by decide)) (vg 1 (by decide))
    rw [dd 0 1 (by decide) (by decide)] at st
    have sm2 := hung_sum F V' hM1
    have same := same_y V2 ST h6 vps
    rw [hung_y V' hM1 (by omega) eO F, Option.bind_some, mv, Option.bind_some, show isTr (mk (hungR rs' O)) = some true from rfl, Option.bind_some, if_neg (by decide), len_y, Option.bind_some, len63_eq, if_pos (by omega), Option.bind_some, l2, hl', if_neg (by simp)]
    rw [show (0 : Int) = ((0 : Nat) : Int) from rfl, g0, Option.bind_some, contains_y V2 (T.vp _ (vg 0 (by decide))), Option.bind_some, Option.bind_some, Option.bind_some, if_neg (by decide), roads_y, Option.bind_some, sum_y _ (by omega), Option.bind_some, sum_y _ (by omega), Option.bind_some, if_neg (by rw [sm2, sm]; simp), y0, Option.bind_some, show (1 : Int) = ((1 : Nat) : Int) from rfl, y1, Option.bind_some, g1]
    simp only [Option.bind_some]
    rw [same, Option.bind_some, if_neg (by decide), w01.1, Option.bind_some, w01.2, Option.bind_some, List.length_map, way_len, show ((dist rs (at_ ps 0) (at_ ps 1) + 1 : Nat) : Int) - ((1 : Nat) : Int) = (dist rs (at_ ps 0) (at_ ps 1) : Int) by omega, st, Option.bind_some, if_neg (by decide), show (5 : Int) = ((5 : Nat) : Int) from rfl, y5, Option.bind_some, contains_y V' (vg 5 (by decide)), Option.bind_some, if_neg (by decide), g5, Option.bind_some, contains_y V2 (T.vp _ (vg 5 (by decide))), Option.bind_some, Option.bind_some, if_neg (by decide)]
    rw [show (2 : Int) = ((2 : Nat) : Int) from rfl, y2, Option.bind_some, show (3 : Int) = ((3 : Nat) : Int) from rfl, y3, Option.bind_some, distance_f V' (vg 2 (by decide)) (vg 3 (by decide)), Option.bind_some, w23.1, Option.bind_some, w23.2, Option.bind_some, List.length_map, way_len, dd 2 3 (by decide) (by decide), if_neg (by simp)]
    exact ⟨_, rfl, m1, hungR rs' O, fun p => hungP rs' O (g p), rfl, V2, by omega, ST, by rw [sm2, sm]⟩
  · rintro ⟨s1, s2⟩ ⟨m, rs', g, e, _⟩
    cases e
    exact ⟨_, rfl, m, rfl⟩
theorem law_f_true (ns : List Int) : law_f ns = some true := by
  refine run_eq ?_
  unfold law_f
  obtain ⟨m, em, hm⟩ : ∃ m : Nat, (if (if (5 : Int) < (ns.length : Int) then (5 : Int) else (ns.length : Int)) > (1 : Int) then (if (5 : Int) < (ns.length : Int) then (5 : Int) else (ns.length : Int)) else (1 : Int)) = (m : Int) ∧ m ≤ 5 := by
    generalize hz : (if (5 : Int) < (ns.length : Int) then (5 : Int) else (ns.length : Int)) = z
    have h : 0 ≤ z ∧ z ≤ 5 := by
      rw [← hz]
      split <;> omega
    generalize hy : (if z > (1 : Int) then z else (1 : Int)) = y
    have h' : 0 ≤ y ∧ y ≤ 5 := by
      rw [← hy]
      split <;> omega
    exact ⟨y.toNat, by omega, by omega⟩
  rw [em, Option.bind_some, rng_ok (by omega), Option.bind_some]
  refine Run.elim (forL_rng (g := fun (i : Nat) => (i : Int)) (fun i s => True) (fun _ => False) trivial ?_) (fun _ _ => ⟨_, rfl, rfl⟩) fun _ h => h.elim
  intro i s hi _
  have hi : i < 5 := by omega
  obtain ⟨n0, e0⟩ := digits_run ns i (by omega)
  obtain ⟨n1, e1⟩ := case_y n0
  rw [e0, Option.bind_some, e1, Option.bind_some, if_neg (by simp)]
  exact ⟨_, rfl, trivial⟩
theorem law_true (ns : List Int) (hn : ns.length ≤ 63) : ∃ s', Sm.bodyF (ps := law_ps) (ls := law_ls) law_m ((some ns, ()) : Option (List Int) × Unit) = some (true, s') := by
  obtain ⟨s', h, _⟩ := law_sim ns true (law_f_true ns)
  exact ⟨s', h⟩
end
end Lm
open PySem PySem.W PyProof.Rows
set_option maxRecDepth 100000 in
set_option maxHeartbeats 0 in
theorem PySem.Challenge.cw_bothcome_k08_whole_ways_in_hung_trees_holds : PySem.Challenge.rw_bothcome_k08_whole_ways_in_hung_trees.Holds := by
  w_on; o_law; k_head; (case hw => w_witness2)
  k_fill
  refine Sm.law_walk (l := PySem.Challenge.rw_bothcome_k08_whole_ways_in_hung_trees) (k := 10) (f := Sm.bodyF (ps := Lw.law_ps) (ls := Lw.law_ls) Lw.law_m) rfl rfl ⟨rfl, by decide, by decide⟩ (fun w h Y => PySem.W.kIn_of Y) ?F Lm.law_true
  case F =>
    intro w mg fa h KX G hmg
    refine' Lw.all_mk KX G hmg ?a0 ?l0 ?c0 ?k0 ?a1 ?l1 ?c1 ?k1 ?a2 ?l2 ?c2 ?k2 ?a3 ?l3 ?c3 ?k3 ?a4 ?l4 ?c4 ?k4 ?a5 ?l5 ?c5 ?k5 ?a6 ?l6 ?c6 ?k6 ?a7 ?l7 ?c7 ?k7 ?a8 ?l8 ?c8 ?k8 ?a9 ?l9 ?c9 ?k9 ?a10 ?l10 ?c10 ?k10 ?a11 ?l11 ?c11 ?k11 ?a12 ?l12 ?c12 ?k12 ?a13 ?l13 ?c13 ?k13 ?i13 ?a14 ?pg14 ?pt14 ?pr14 ?l14 ?c14 ?k14 ?a15 ?l15 ?c15 ?k15 ?i15 ?a16 ?l16 ?c16 ?k16 ?i16 ?a17 ?l17 ?c17 ?k17 ?i17 ?a18 ?l18 ?c18 ?k18 ?i18 ?a19 ?l19 ?c19 ?k19 ?i19 ?a20 ?l20 ?c20 ?k20 ?i20 ?a21 ?l21 ?c21 ?k21 ?i21 ?a22 ?l22 ?c22 ?k22 ?i22 ?a23 ?l23 ?c23 ?k23 ?i23 ?a24 ?l24 ?c24 ?k24 ?i24 ?a25 ?l25 ?c25 ?k25 ?i25 ?a26 ?l26 ?c26 ?k26 ?i26 ?aC ?pg ?hd ?po ?sa ?mk ?kc ?nP ?nL ?nH ?haO ?hnO ?htO ?hmO ?ktO ?z0 ?z1 ?z2 ?z3 ?z4 ?z5 ?z6 ?z7 ?z8 ?z9 ?z10 ?z11 ?z12
    (case aC => k_is)
    (case a0 => k_is)
    (case a1 => k_is)
    (case a2 => k_is)
    (case a3 => k_is)
    (case a4 => k_is)
    (case a5 => k_is)
    (case a6 => k_is)
    (case a7 => k_is)
    (case a8 => k_is)
    (case a9 => k_is)
    (case a10 => k_is)
    (case a11 => k_is)
    (case a12 => k_is)
    (case a13 => k_is)
    (case a14 => k_is)
    (case a15 => k_is)
    (case a16 => k_is)
    (case a17 => k_is)
    (case a18 => k_is)
    (case a19 => k_is)
    (case a20 => k_is)
    (case a21 => k_is)
    (case a22 => k_is)
    (case a23 => k_is)
    (case a24 => k_is)
    (case a25 => k_is)
    (case a26 => k_is)
    (case l0 => k_is)
    (case c0 => k_is)
    (case k0 => k_is)
    (case l1 => k_is)
    (case c1 => k_is)
    (case k1 => k_is)
    (case l2 => k_is)
    (case c2 => k_is)
    (case k2 => k_is)
    (case l3 => k_is)
    (case c3 => k_is)
    (case k3 => k_is)
    (case l4 => k_is)
    (case c4 => k_is)
    (case k4 => k_is)
    (case l5 => k_is)
    (case c5 => k_is)
    (case k5 => k_is)
    (case l6 => k_is)
    (case c6 => k_is)
    (case k6 => k_is)
    (case l7 => k_is)
    (case c7 => k_is)
    (case k7 => k_is)
    (case l8 => k_is)
    (case c8 => k_is)
    (case k8 => k_is)
    (case l9 => k_is)
    (case c9 => k_is)
    (case k9 => k_is)
    (case l10 => k_is)
    (case c10 => k_is)
    (case k10 => k_is)
    (case l11 => k_is)
    (case c11 => k_is)
    (case k11 => k_is)
    (case l12 => k_is)
    (case c12 => k_is)
    (case k12 => k_is)
    (case l13 => k_is)
    (case c13 => k_is)
    (case k13 => k_is)
    (case i13 => k_is)
    (case pg14 => k_is)
    (case pt14 => k_is)
    (case pr14 => k_is)
    (case l14 => k_is)
    (case c14 => k_is)
    (case k14 => k_is)
    (case l15 => k_is)
    (case c15 => k_is)
    (case k15 => k_is)
    (case i15 => k_is)
    (case l16 => k_is)
    (case c16 => k_is)
    (case k16 => k_is)
    (case i16 => k_is)
    (case l17 => k_is)
    (case c17 => k_is)
    (case k17 => k_is)
    (case i17 => k_is)
    (case l18 => k_is)
    (case c18 => k_is)
    (case k18 => k_is)
    (case i18 => k_is)
    (case l19 => k_is)
    (case c19 => k_is)
    (case k19 => k_is)
    (case i19 => k_is)
    (case l20 => k_is)
    (case c20 => k_is)
    (case k20 => k_is)
    (case i20 => k_is)
    (case l21 => k_is)
    (case c21 => k_is)
    (case k21 => k_is)
    (case i21 => k_is)
    (case l22 => k_is)
    (case c22 => k_is)
    (case k22 => k_is)
    (case i22 => k_is)
    (case l23 => k_is)
    (case c23 => k_is)
    (case k23 => k_is)
    (case i23 => k_is)
    (case l24 => k_is)
    (case c24 => k_is)
    (case k24 => k_is)
    (case i24 => k_is)
    (case l25 => k_is)
    (case c25 => k_is)
    (case k25 => k_is)
    (case i25 => k_is)
    (case l26 => k_is)
    (case c26 => k_is)
    (case k26 => k_is)
    (case i26 => k_is)
    (case pg => k_is)
    (case hd => k_is)
    (case po => k_is)
    (case sa => k_is)
    (case mk => k_is)
    (case kc => k_is)
    (case nP => k_is)
    (case nL => k_is)
    (case nH => k_is)
    (case haO => k_is)
    (case hnO => k_is)
    (case htO => k_is)
    (case hmO => k_is)
    (case ktO => k_is)
    (case z0 => k_is)
    (case z1 => k_is)
    (case z2 => k_is)
    (case z3 => k_is)
    (case z4 => k_is)
    (case z5 => k_is)
    (case z6 => k_is)
    (case z7 => k_is)
    (case z8 => k_is)
    (case z9 => k_is)
    (case z10 => k_is)
    (case z11 => k_is)
    (case z12 => k_is)
