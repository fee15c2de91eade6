import PyProof.Rows.All
import Wide.All
import OpenK.AllK
import Wide.FinOn
import HandS.ForMost
import HandS.Wide
import HandS.Zip
import HandS.Style
import HandS.TupAny
import HandS.TupMul
import PySem.Challenge.RW_tidestold_k15_whole_known_two_ships_that
set_option Elab.async false
set_option linter.all false
set_option maxRecDepth 100000
set_option maxHeartbeats 4000000
namespace TC
open PySem PySem.Spec PyProof.Rows L2

/-! ### data over the heap -/
def immO : HO → Prop
  | .tup _ => True
  | .frz _ _ => True
  | _ => False
structure gr (A : Addr → Prop) (H H' : Hp) : Prop where
  kp : ∀ a o, H a = some o → (A a → immO o) → H' a = some o
  ex : ∀ a, H a ≠ none → H' a ≠ none
theorem gr.refl (A : Addr → Prop) (H : Hp) : gr A H H := ⟨fun _ _ h _ => h, fun _ h => h⟩
theorem gr.trans {A : Addr → Prop} {H H1 H2 : Hp} (a : gr A H H1) (b : gr A H1 H2) : gr A H H2 :=
  ⟨fun c o h i => b.kp c o (a.kp c o h i) i, fun c h => b.ex c (a.ex c h)⟩
theorem gr.mono {A B : Addr → Prop} {H H1 : Hp} (a : gr A H H1) (h : ∀ c, A c → B c) : gr B H H1 :=
  ⟨fun c o e i => a.kp c o e fun z => i (h c z), a.ex⟩
theorem gr.of_same {A : Addr → Prop} {H H1 : Hp} (a : Same H H1) : gr A H H1 :=
  ⟨fun c o e _ => a c o e, fun c h => by
    cases q : H c with
    | none => exact absurd q h
    | some o => rw [a c o q]; simp⟩
theorem gr.new {A : Addr → Prop} {H : Hp} {p : Addr} {o : HO} (n : H p = none) : gr A H (upd H p o) :=
  gr.of_same fun b u e => by rw [upd_ne (ne_of_none e n)]; exact e

def keyD : Key → PyData
  | .inl i => .int i
  | .inr s => .str s

mutual
inductive Rp (K : PySem.W.Frag) (A : Addr → Prop) (H : Hp) : V → PyData → Prop
  | non : Rp K A H .non .none
  | bl (b : Bool) : Rp K A H (.bl b) (.bool b)
  | int (i : Int) : Rp K A H (.int i) (.int i)
  | str (x : Str) : Rp K A H (.str x) (.str x)
  | tup {a : Addr} {xs : List V} {ds : List PyData} : xs.length ≤ sizeLine → SqT K H a xs → RpAll K A H xs ds → Rp K A H (.ref a) (.tuple ds)
  | obj {a : Addr} {d : PyData} : ¬ A a → RpO K A H a d → Rp K A H (.ref a) d
inductive RpO (K : PySem.W.Frag) (A : Addr → Prop) (H : Hp) : Addr → PyData → Prop
  | lst {a : Addr} {xs : List V} {ds : List PyData} : xs.length ≤ sizeLine → H a = some (.lst xs) → RpAll K A H xs ds → RpO K A H a (.list ds)
  | dK {a : Addr} {kvs : List (Key × V)} {ds : List (PyData × PyData)} : Rd H a (.dK kvs) → kvs.map (fun p => keyD p.1) = ds.map (·.1) → RpAll K A H (kvs.map (·.2)) (ds.map (·.2)) → RpO K A H a (.dict ds)
  | dT {a : Addr} {kvs : List (List Key × V)} {ds : List (PyData × PyData)} : Rd H a (.dT kvs) → kvs.map (fun p => PyData.tuple (p.1.map keyD)) = ds.map (·.1) → RpAll K A H (kvs.map (·.2)) (ds.map (·.2)) → RpO K A H a (.dict ds)
inductive RpAll (K : PySem.W.Frag) (A : Addr → Prop) (H : Hp) : List V → List PyData → Prop
  | nil : RpAll K A H [] []
  | cons {v : V} {vs : List V} {d : PyData} {ds : List PyData} : Rp K A H v d → RpAll K A H vs ds → RpAll K A H (v :: vs) (d :: ds)
end

section
variable {K : PySem.W.Frag} {A B : Addr → Prop} {H H' : Hp}
theorem gr.rd {a : Addr} {u : HO} (g : gr A H H') (n : A a → immO u) (h : Rd H a u) : Rd H' a u := by
  rcases h with h | ⟨o, h⟩
  · exact .inl (g.kp a _ h n)
  · exact .inr ⟨o, g.kp a _ h fun _ => trivial⟩
theorem gr.sqt {a : Addr} {xs : List V} (g : gr A H H') (h : SqT K H a xs) : SqT K H' a xs := by
  rcases h with h | h
  · exact .inl (g.rd (fun _ => trivial) h)
  · exact .inr h
mutual
theorem Rp.mono (g : gr A H H') : ∀ {v d}, Rp K A H v d → Rp K A H' v d
  | _, _, .non => .non
  | _, _, .bl b => .bl b
  | _, _, .int i => .int i
  | _, _, .str i => .str i
  | _, _, .tup z h t => .tup z (g.sqt h) (RpAll.mono g t)
  | _, _, .obj n t => .obj n (RpO.mono g n t)
theorem RpO.mono (g : gr A H H') : ∀ {a d}, ¬ A a → RpO K A H a d → RpO K A H' a d
  | _, _, n, .lst z h t => .lst z (g.kp _ _ h fun z => absurd z n) (RpAll.mono g t)
  | _, _, n, .dK h e t => .dK (g.rd (fun z => absurd z n) h) e (RpAll.mono g t)
  | _, _, n, .dT h e t => .dT (g.rd (fun z => absurd z n) h) e (RpAll.mono g t)
theorem RpAll.mono (g : gr A H H') : ∀ {v d}, RpAll K A H v d → RpAll K A H' v d
  | _, _, .nil => .nil
  | _, _, .cons h t => .cons (Rp.mono g h) (RpAll.mono g t)
end
theorem Rd.some {a : Addr} {u : HO} (h : Rd H a u) : H a ≠ none := by
  rcases h with h | ⟨o, h⟩ <;> rw [h] <;> simp
theorem RpO.some {a : Addr} {d : PyData} (h : RpO K A H a d) : H a ≠ none := by
  cases h with
  | lst _ h _ => rw [h]; simp
  | dK h _ _ => exact Rd.some h
  | dT h _ _ => exact Rd.some h
mutual
/-- other addresses are avoided: each that H knows was avoided before -/
theorem Rp.chg (g : ∀ a, B a → H a ≠ none → A a) : ∀ {v d}, Rp K A H v d → Rp K B H v d
  | _, _, .non => .non
  | _, _, .bl b => .bl b
  | _, _, .int i => .int i
  | _, _, .str i => .str i
  | _, _, .tup z h t => .tup z h (RpAll.chg g t)
  | _, _, .obj n t => .obj (fun z => n (g _ z (RpO.some t))) (RpO.chg g t)
theorem RpO.chg (g : ∀ a, B a → H a ≠ none → A a) : ∀ {a d}, RpO K A H a d → RpO K B H a d
  | _, _, .lst z h t => .lst z h (RpAll.chg g t)
  | _, _, .dK h e t => .dK h e (RpAll.chg g t)
  | _, _, .dT h e t => .dT h e (RpAll.chg g t)
theorem RpAll.chg (g : ∀ a, B a → H a ≠ none → A a) : ∀ {v d}, RpAll K A H v d → RpAll K B H v d
  | _, _, .nil => .nil
  | _, _, .cons h t => .cons (Rp.chg g h) (RpAll.chg g t)
end
theorem Rp.weak (h : Rp K A H v d) (g : ∀ a, B a → A a) : Rp K B H v d := h.chg fun a b _ => g a b

/-! no list and no dict within -/
mutual
def immD : PyData → Bool
  | .tuple xs => immDs xs
  | .list _ => false
  | .dict _ => false
  | _ => true
def immDs : List PyData → Bool
  | [] => true
  | x :: xs => immD x && immDs xs
end
mutual
theorem Rp.any : ∀ {v d}, immD d = true → Rp K A H v d → Rp K B H v d
  | _, _, _, .non => .non
  | _, _, _, .bl b => .bl b
  | _, _, _, .int i => .int i
  | _, _, _, .str i => .str i
  | _, _, i, .tup z h t => .tup z h (RpAll.any (by simpa [immD] using i) t)
  | _, _, i, .obj n (.lst _ _ _) => by simp [immD] at i
  | _, _, i, .obj n (.dK _ _ _) => by simp [immD] at i
  | _, _, i, .obj n (.dT _ _ _) => by simp [immD] at i
theorem RpAll.any : ∀ {v d}, immDs d = true → RpAll K A H v d → RpAll K B H v d
  | _, _, _, .nil => .nil
  | _, _, i, .cons h t => by
    simp only [immDs, Bool.and_eq_true] at i
    exact .cons (Rp.any i.1 h) (RpAll.any i.2 t)
end
theorem RpAll.length : ∀ {vs : List V} {ds : List PyData}, RpAll K A H vs ds → vs.length = ds.length
  | _, _, .nil => rfl
  | _, _, .cons _ t => by simp [RpAll.length t]
theorem RpAll.get : ∀ {vs : List V} {ds : List PyData} {i : Nat} {d : PyData}, RpAll K A H vs ds → ds[i]? = some d → ∃ v, vs[i]? = some v ∧ Rp K A H v d
  | _, _, i, _, .nil, e => by simp at e
  | _, _, 0, _, .cons (v := v) h t, e => by
    have e : _ = _ := Option.some.inj e
    subst e
    exact ⟨v, rfl, h⟩
  | _, _, i + 1, _, .cons h t, e => by
    obtain ⟨v, h1, h2⟩ := RpAll.get (i := i) t (by simpa using e)
    exact ⟨v, by simpa using h1, h2⟩
theorem RpAll.append : ∀ {vs ws : List V} {ds es : List PyData}, RpAll K A H vs ds → RpAll K A H ws es → RpAll K A H (vs ++ ws) (ds ++ es)
  | _, _, _, _, .nil, s => s
  | _, _, _, _, .cons h t, s => .cons h (RpAll.append t s)
theorem RpAll.take : ∀ {vs : List V} {ds : List PyData} (n : Nat), RpAll K A H vs ds → RpAll K A H (vs.take n) (ds.take n)
  | _, _, 0, _ => by simpa using .nil
  | _, _, n + 1, .nil => .nil
  | _, _, n + 1, .cons h t => .cons h (RpAll.take n t)
theorem RpAll.drop : ∀ {vs : List V} {ds : List PyData} (n : Nat), RpAll K A H vs ds → RpAll K A H (vs.drop n) (ds.drop n)
  | _, _, 0, h => h
  | _, _, n + 1, .nil => .nil
  | _, _, n + 1, .cons h t => RpAll.drop n t
theorem RpAll.reverse : ∀ {vs : List V} {ds : List PyData}, RpAll K A H vs ds → RpAll K A H vs.reverse ds.reverse
  | _, _, .nil => .nil
  | _, _, .cons h t => by
    rw [List.reverse_cons, List.reverse_cons]
    exact (RpAll.reverse t).append (.cons h .nil)
theorem Rp.int_inv {v : V} {i : Int} (h : Rp K A H v (.int i)) : v = .int i := by
  cases h with
  | int => rfl
  | obj n h => nomatch h
theorem Rp.bl_inv {v : V} {i : Bool} (h : Rp K A H v (.bool i)) : v = .bl i := by
  cases h with
  | bl => rfl
  | obj n h => nomatch h
theorem Rp.str_inv {v : V} {i : Str} (h : Rp K A H v (.str i)) : v = .str i := by
  cases h with
  | str => rfl
  | obj n h => nomatch h
theorem Rp.non_inv {v : V} (h : Rp K A H v .none) : v = .non := by
  cases h with
  | non => rfl
  | obj n h => nomatch h
theorem Rp.tup_inv {v : V} {ds : List PyData} (h : Rp K A H v (.tuple ds)) : ∃ a xs, v = .ref a ∧ xs.length ≤ sizeLine ∧ SqT K H a xs ∧ RpAll K A H xs ds := by
  cases h with
  | tup z h t => exact ⟨_, _, rfl, z, h, t⟩
  | obj n h => nomatch h
theorem Rp.lst_inv {v : V} {ds : List PyData} (h : Rp K A H v (.list ds)) : ∃ a xs, v = .ref a ∧ ¬ A a ∧ xs.length ≤ sizeLine ∧ H a = some (.lst xs) ∧ RpAll K A H xs ds := by
  cases h with
  | obj n h => cases h with | lst z h t => exact ⟨_, _, rfl, n, z, h, t⟩
theorem Rp.dct_inv {v : V} {ds : List (PyData × PyData)} (h : Rp K A H v (.dict ds)) : ∃ a, v = .ref a ∧ ¬ A a ∧ RpO K A H a (.dict ds) := by
  cases h with
  | obj n h => exact ⟨_, rfl, n, h⟩
end

/-! ### what stands for data -/
class Py (α : Type) where
  enc : α → PyData
open Py (enc)
class Imm (α : Type) [Py α] : Prop where
  imm : ∀ x : α, immD (enc x) = true
instance : Py Int := ⟨.int⟩
instance : Imm Int := ⟨fun _ => rfl⟩
instance : Py Bool := ⟨.bool⟩
instance : Imm Bool := ⟨fun _ => rfl⟩
instance : Py Str := ⟨.str⟩
instance : Imm Str := ⟨fun _ => rfl⟩
instance : Py Unit := ⟨fun _ => .none⟩
instance : Imm Unit := ⟨fun _ => rfl⟩
instance {α} [Py α] : Py (Option α) := ⟨fun o => match o with | none => .none | some x => enc x⟩
instance {α} [Py α] [Imm α] : Imm (Option α) := ⟨fun o => match o with | none => rfl | some x => Imm.imm x⟩
instance {α β} [Py α] [Py β] : Py (Sum α β) := ⟨fun o => match o with | .inl x => enc x | .inr x => enc x⟩
instance {α β} [Py α] [Py β] [Imm α] [Imm β] : Imm (Sum α β) := ⟨fun o => match o with | .inl x => Imm.imm x | .inr x => Imm.imm x⟩
instance {α β} [Py α] [Py β] : Py (α × β) := ⟨fun p => .tuple [enc p.1, enc p.2]⟩
theorem imm_and {a b : Bool} (h : a = true) (k : b = true) : (a && b) = true := by rw [h, k]; rfl
instance {α β} [Py α] [Py β] [Imm α] [Imm β] : Imm (α × β) := ⟨fun p => by simp [enc, immD, immDs, Imm.imm]⟩
structure T3 (α β γ : Type) where
  a : α
  b : β
  c : γ
  deriving DecidableEq, Repr, Inhabited
structure T4 (α β γ δ : Type) where
  a : α
  b : β
  c : γ
  d : δ
  deriving DecidableEq, Repr, Inhabited
instance {α β γ} [Py α] [Py β] [Py γ] : Py (T3 α β γ) := ⟨fun p => .tuple [enc p.a, enc p.b, enc p.c]⟩
instance {α β γ} [Py α] [Py β] [Py γ] [Imm α] [Imm β] [Imm γ] : Imm (T3 α β γ) := ⟨fun p => by simp [enc, immD, immDs, Imm.imm]⟩
instance {α β γ δ} [Py α] [Py β] [Py γ] [Py δ] : Py (T4 α β γ δ) := ⟨fun p => .tuple [enc p.a, enc p.b, enc p.c, enc p.d]⟩
instance {α β γ δ} [Py α] [Py β] [Py γ] [Py δ] [Imm α] [Imm β] [Imm γ] [Imm δ] : Imm (T4 α β γ δ) := ⟨fun p => by simp [enc, immD, immDs, Imm.imm]⟩
/-- a tuple of any length -/
instance {α} [Py α] : Py (List α) := ⟨fun xs => .tuple (xs.map enc)⟩
theorem immDs_map {α : Type} [Py α] [Imm α] : ∀ xs : List α, immDs (xs.map enc) = true
  | [] => rfl
  | x :: xs => by simp [immDs, Imm.imm, immDs_map xs]
instance {α} [Py α] [Imm α] : Imm (List α) := ⟨fun xs => by simpa [enc, immD] using immDs_map xs⟩
/-- a list -/
structure Ls (α : Type) where
  l : List α
  deriving DecidableEq, Repr, Inhabited
instance {α} [Py α] : Py (Ls α) := ⟨fun xs => .list (xs.l.map enc)⟩

/-! ### the mirrors' monad -/
class MR (m : Type → Type) (S : outParam Type) [Monad m] where
  run : {α : Type} → m α → S → Option (α × S)
  run_pure : ∀ {α : Type} (a : α) (s : S), run (pure a : m α) s = some (a, s)
  run_bind : ∀ {α β : Type} (x : m α) (f : α → m β) (s : S), run (x >>= f) s = (run x s).bind fun p => run (f p.1) p.2
  lift : {α : Type} → Option α → m α
  run_lift : ∀ {α : Type} (o : Option α) (s : S), run (lift o) s = o.map fun a => (a, s)
instance : MR Option Unit where
  run x _ := x.map fun a => (a, ())
  run_pure _ _ := rfl
  run_bind x f s := by cases x <;> rfl
  lift o := o
  run_lift _ _ := rfl
abbrev SM (S : Type) := StateT S Option
instance {S : Type} : MR (SM S) S where
  run x s := x s
  run_pure _ _ := rfl
  run_bind x f s := rfl
  lift o := fun s => o.map fun a => (a, s)
  run_lift _ _ := rfl
theorem run_bind_some {m : Type → Type} {S : Type} [Monad m] [MR m S] {α β : Type} {x : m α} {f : α → m β} {s s' : S} {b : β} (h : MR.run (x >>= f) s = some (b, s')) :
    ∃ a s1, MR.run x s = some (a, s1) ∧ MR.run (f a) s1 = some (b, s') := by
  rw [MR.run_bind] at h
  cases q : MR.run x s with
  | none => rw [q] at h; cases h
  | some p => rw [q] at h; exact ⟨p.1, p.2, rfl, h⟩
theorem run_pure_some {m : Type → Type} {S : Type} [Monad m] [MR m S] {α : Type} {a b : α} {s s' : S} (h : MR.run (pure a : m α) s = some (b, s')) : a = b ∧ s = s' := by
  rw [MR.run_pure] at h
  cases h
  exact ⟨rfl, rfl⟩
theorem run_lift_some {m : Type → Type} {S : Type} [Monad m] [MR m S] {α : Type} {o : Option α} {b : α} {s s' : S} (h : MR.run (MR.lift o : m α) s = some (b, s')) : o = some b ∧ s = s' := by
  rw [MR.run_lift] at h
  cases o with
  | none => cases h
  | some a => cases h; exact ⟨rfl, rfl⟩

structure Wd (S : Type) where
  Av : Addr → Prop
  WI : S → Hp → Prop
  old : ∀ s H a, WI s H → Av a → H a ≠ none
  keep : ∀ s H H', WI s H → (∀ a o, Av a → H a = some o → H' a = some o) → WI s H'
def W0 : Wd Unit := ⟨fun _ => False, fun _ _ => True, fun _ _ _ _ h => h.elim, fun _ _ _ _ _ => trivial⟩
theorem Wd.new {S : Type} (W : Wd S) {s : S} {H : Hp} {p : Addr} {o : HO} (h : W.WI s H) (n : H p = none) : W.WI s (upd H p o) :=
  W.keep s H _ h fun a u z e => by rw [upd_ne (ne_of_none e n)]; exact e
end TC

namespace TC
open PySem PySem.Spec PyProof.Rows L2
open Py (enc)

abbrev Sg := L2.St
/-! ### readings that are what they are -/
def wE (X : Cx) (e : Expr) : TE := fun σ H Q => ∀ pins s, Inv X pins σ H s → wpAny (model X.prog X.w) X.A (eval e X.env) (EP X pins σ Q) X.xe s
def wT (X : Cx) (e : Expr) : TT := fun σ H Q => ∀ pins s, Inv X pins σ H s → wpAny (model X.prog X.w) X.A (isTrue e X.env (eval e X.env)) (TP X pins σ Q) X.xe s
def wW (X : Cx) (e : Expr) : TT := fun σ H Q => ∀ wh pins s, Inv X pins σ H s → wpAny (model X.prog X.w) X.A (isTrue e X.env wh) (TP X pins σ Q) X.xe s
def wA (X : Cx) (es : List Expr) : TA := fun σ H Q => ∀ pos pins s, Inv X pins σ H s → wpAny (model X.prog X.w) X.A (spliced (backTo pos (starEach es X.env))) (AP X pins σ Q) X.xe s
def wS (X : Cx) (st : Stmt) : TS := fun D σ H => ∀ pins s, Inv X pins σ H s → wpAny (model X.prog X.w) X.A (exec st X.env) (SP X pins D) X.xe s
def wSs (X : Cx) (st : List Stmt) : TS := fun D σ H => ∀ pins s, Inv X pins σ H s → wpAny (model X.prog X.w) X.A (execs st X.env) (SP X pins D) X.xe s
def wI (X : Cx) (tg iter : Expr) : TI := fun σ H R => ∀ pins s, Inv X pins σ H s → wpAny (model X.prog X.w) X.A (eval iter X.env) (fun v s1 => wpAny (model X.prog X.w) X.A (pyIter v) (PIE X pins σ tg R) X.xe s1) X.xe s
section
variable {X : Cx}
theorem peW (e : Expr) : PE X e (wE X e) := ⟨fun pins s _ _ _ I h => h pins s I⟩
theorem ptW (e : Expr) : PT X e (wT X e) := ⟨fun pins s _ _ _ I h => h pins s I⟩
theorem pwW (e : Expr) : PW X e (wW X e) := ⟨fun wh pins s _ _ _ I h => h wh pins s I⟩
theorem paW (e : List Expr) : PA X e (wA X e) := ⟨fun pos pins s _ _ _ I h => h pos pins s I⟩
theorem psW (e : Stmt) : PS X e (wS X e) := ⟨fun pins s _ _ _ I h => h pins s I⟩
theorem pssW (e : List Stmt) : PSs X e (wSs X e) := ⟨fun pins s _ _ _ I h => h pins s I⟩
theorem piW (tg e : Expr) : PI X tg e (wI X tg e) := ⟨fun pins s _ _ _ I h => h pins s I⟩
theorem wE.of {e : Expr} {t : TE} (p : PE X e t) {σ : Sg} {H : Hp} {Q : VK} (h : t σ H Q) : wE X e σ H Q := fun pins s I => p.run pins s σ H Q I h
theorem wT.of {e : Expr} {t : TT} (p : PT X e t) {σ : Sg} {H : Hp} {Q : Bool → Hp → Prop} (h : t σ H Q) : wT X e σ H Q := fun pins s I => p.run pins s σ H Q I h
theorem wW.of {e : Expr} {t : TT} (p : PW X e t) {σ : Sg} {H : Hp} {Q : Bool → Hp → Prop} (h : t σ H Q) : wW X e σ H Q := fun wh pins s I => p.run wh pins s σ H Q I h
theorem wA.of {e : List Expr} {t : TA} (p : PA X e t) {σ : Sg} {H : Hp} {Q : List V → Hp → Prop} (h : t σ H Q) : wA X e σ H Q := fun pos pins s I => p.run pos pins s σ H Q I h
theorem wS.of {e : Stmt} {t : TS} (p : PS X e t) {σ : Sg} {H : Hp} {D : Ends} (h : t D σ H) : wS X e D σ H := fun pins s I => p.run pins s σ H D I h
theorem wSs.of {e : List Stmt} {t : TS} (p : PSs X e t) {σ : Sg} {H : Hp} {D : Ends} (h : t D σ H) : wSs X e D σ H := fun pins s I => p.run pins s σ H D I h
theorem wI.of {tg e : Expr} {t : TI} (p : PI X tg e t) {σ : Sg} {H : Hp} {R : It → Hp → Prop} (h : t σ H R) : wI X tg e σ H R := fun pins s I => p.run pins s σ H R I h
end

/-! ### slots -/
/-- what a slot holds: nothing that is known; data; a list or dict of the def's own that may change -/
inductive SK (γ : Type) where
  | u
  | v (d : γ → PyData)
  | o (d : γ → PyData)
  | k (v : V)
def SK.cm {γ δ : Type} (π : δ → γ) : SK γ → SK δ
  | .u => .u
  | .v d => .v fun g => d (π g)
  | .o d => .o fun g => d (π g)
  | .k z => .k z
def Own {γ : Type} (ss : List (SK γ)) (σ : Sg) (a : Addr) : Prop := ∃ (i : Nat) (d : γ → PyData), ss[i]? = some (.o d) ∧ σ[i]? = some (some (.ref a))
def slotR {γ : Type} (K : PySem.W.Frag) (Av A : Addr → Prop) (H0 H : Hp) (k : SK γ) (g : γ) (o : Option V) : Prop :=
  match k with
  | .u => True
  | .v d => ∃ v, o = some v ∧ Rp K A H v (d g)
  | .k z => o = some z
  | .o d => ∃ a, o = some (.ref a) ∧ RpO K A H a (d g) ∧ H0 a = none ∧ ¬ Av a ∧ ∃ x, H a = some x ∧ ¬ immO x
structure Rr (K : PySem.W.Frag) (Av : Addr → Prop) (H0 : Hp) {γ : Type} (ss : List (SK γ)) (g : γ) (σ : Sg) (H : Hp) : Prop where
  base : gr Av H0 H
  len : ss.length = σ.length
  slot : ∀ (i : Nat) (k : SK γ) (o : Option V), ss[i]? = some k → σ[i]? = some o → slotR K Av (fun a => Av a ∨ Own ss σ a) H0 H k g o
  one : ∀ (i j : Nat) (d e : γ → PyData) (a : Addr), ss[i]? = some (.o d) → ss[j]? = some (.o e) → σ[i]? = some (some (.ref a)) → σ[j]? = some (some (.ref a)) → i = j
section
variable {K : PySem.W.Frag} {Av : Addr → Prop} {H0 H H' : Hp} {γ : Type} {ss : List (SK γ)} {g : γ} {σ : Sg}
theorem gr.immO {A : Addr → Prop} (q : gr A H H') {a : Addr} {o : HO} (h : H a = some o) (n : ¬ A a) : H' a = some o := q.kp a o h fun z => absurd z n
theorem RpO.mono2 {K : PySem.W.Frag} {A B : Addr → Prop} {H H' : Hp} (g : gr A H H') (q : gr B H H') : ∀ {a : Addr} {d : PyData}, ¬ B a → RpO K A H a d → RpO K A H' a d
  | _, _, n, .lst z h t => .lst z (q.kp _ _ h fun z => absurd z n) (RpAll.mono g t)
  | _, _, n, .dK h e t => .dK (q.rd (fun z => absurd z n) h) e (RpAll.mono g t)
  | _, _, n, .dT h e t => .dT (q.rd (fun z => absurd z n) h) e (RpAll.mono g t)
theorem Rr.st (r : Rr K Av H0 ss g σ H) (q : gr Av H H') : Rr K Av H0 ss g σ H' := by
  refine ⟨r.base.trans q, r.len, fun i k o h1 h2 => ?_, r.one⟩
  have h := r.slot i k o h1 h2
  cases k with
  | u => trivial
  | k w => exact h
  | v d =>
    obtain ⟨v, e, h⟩ := h
    exact ⟨v, e, h.mono (q.mono fun _ z => .inl z)⟩
  | o d =>
    obtain ⟨a, e, h, n0, nA, x, hx, mx⟩ := h
    refine ⟨a, e, ?_, n0, nA, x, q.immO hx nA, mx⟩
    have q' : gr (fun a => Av a ∨ Own ss σ a) H H' := q.mono fun _ z => .inl z
    exact h.mono2 q' q nA
/-- what a name holds -/
theorem Rr.get (r : Rr K Av H0 ss g σ H) {i : Nat} {d : γ → PyData} (h : ss[i]? = some (.v d) ∨ ss[i]? = some (.o d)) : ∃ v, σ[i]? = some (some v) ∧ Rp K Av H v (d g) := by
  have hi : i < ss.length := by
    rcases h with h | h
    · exact (List.getElem?_eq_some_iff.mp h).1
    · exact (List.getElem?_eq_some_iff.mp h).1
  obtain ⟨w, hs⟩ : ∃ w, σ[i]? = some w := ⟨_, List.getElem?_eq_getElem (show i < σ.length by rw [← r.len]; exact hi)⟩
  rcases h with h | h
  · obtain ⟨v, e, q⟩ := r.slot i _ _ h hs
    subst e
    exact ⟨v, hs, q.weak fun _ z => .inl z⟩
  · obtain ⟨a, e, q, n0, nA, _⟩ := r.slot i _ _ h hs
    subst e
    exact ⟨.ref a, hs, .obj nA (q.chg fun _ z _ => .inl z)⟩
theorem Rr.ownS (r : Rr K Av H0 ss g σ H) {a : Addr} (h : Own ss σ a) : H a ≠ none ∧ H0 a = none ∧ ¬ Av a := by
  obtain ⟨i, d, h1, h2⟩ := h
  obtain ⟨b, e, q, n0, nA, x, hx, _⟩ := r.slot i _ _ h1 h2
  cases e
  exact ⟨q.some, n0, nA⟩
end

/-! ### expressions -/
section
variable {S : Type} {m : Type → Type} [Monad m] [MR m S] {γ α β : Type} [Py α] [Py β]
/-- e evaluates to what f says -/
def EV (X : Cx) (W : Wd S) (R : γ → Sg → Hp → Prop) (e : Expr) (f : γ → m α) : Prop :=
  ∀ g s x s', MR.run (f g) s = some (x, s') → ∀ σ H, R g σ H → W.WI s H → ∀ Q : VK, (∀ v H', gr W.Av H H' → W.WI s' H' → Rp X.K W.Av H' v (enc x) → Q v H') → wE X e σ H Q
/-- .. and what lists and dicts it hands back are new -/
def EVf (X : Cx) (W : Wd S) (R : γ → Sg → Hp → Prop) (e : Expr) (f : γ → m α) : Prop :=
  ∀ g s x s', MR.run (f g) s = some (x, s') → ∀ σ H, R g σ H → W.WI s H → ∀ Q : VK, (∀ v H', gr W.Av H H' → W.WI s' H' → Rp X.K (fun a => H a ≠ none) H' v (enc x) → Q v H') → wE X e σ H Q
/-- as a test -/
def TV (X : Cx) (W : Wd S) (R : γ → Sg → Hp → Prop) (e : Expr) (f : γ → m Bool) : Prop :=
  ∀ g s x s', MR.run (f g) s = some (x, s') → ∀ σ H, R g σ H → W.WI s H → ∀ Q : Bool → Hp → Prop, (∀ H', gr W.Av H H' → W.WI s' H' → Q x H') → wT X e σ H Q
/-- .. whatever its whole is -/
def TW (X : Cx) (W : Wd S) (R : γ → Sg → Hp → Prop) (e : Expr) (f : γ → m Bool) : Prop :=
  ∀ g s x s', MR.run (f g) s = some (x, s') → ∀ σ H, R g σ H → W.WI s H → ∀ Q : Bool → Hp → Prop, (∀ H', gr W.Av H H' → W.WI s' H' → Q x H') → wW X e σ H Q
/-- arguments: a list of data -/
def AVs (X : Cx) (W : Wd S) (R : γ → Sg → Hp → Prop) (es : List Expr) (f : γ → m (List PyData)) : Prop :=
  ∀ g s x s', MR.run (f g) s = some (x, s') → ∀ σ H, R g σ H → W.WI s H → ∀ Q : List V → Hp → Prop, (∀ vs H', gr W.Av H H' → W.WI s' H' → RpAll X.K W.Av H' vs x → Q vs H') → wA X es σ H Q
def Stb (W : Wd S) (R : γ → Sg → Hp → Prop) : Prop := ∀ g σ H H', R g σ H → gr W.Av H H' → R g σ H'
theorem Rr.stb {K : PySem.W.Frag} {W : Wd S} {H0 : Hp} {ss : List (SK γ)} : Stb W (Rr K W.Av H0 ss) := fun _ _ _ _ r q => r.st q
variable {X : Cx} {W : Wd S} {R : γ → Sg → Hp → Prop} {e a b c : Expr} {pos : Pos}
theorem EV.of_f {f : γ → m α} (h : EVf X W R e f) : EV X W R e f := fun g s x s' r σ H hR hW Q q =>
  h g s x s' r σ H hR hW Q fun v H' g1 w1 p => q v H' g1 w1 (p.weak fun a z => W.old s H a hW z)
theorem EV.f [Imm α] {f : γ → m α} (h : EV X W R e f) : EVf X W R e f := fun g s x s' r σ H hR hW Q q =>
  h g s x s' r σ H hR hW Q fun v H' g1 w1 p => q v H' g1 w1 (p.any (Imm.imm x))
theorem TV.of_w {f : γ → m Bool} (h : TW X W R e f) : TV X W R e f := fun g s x s' r σ H hR hW Q q => fun pins t I =>
  h g s x s' r σ H hR hW Q q _ pins t I

/-- a name -/
theorem E_var {H0 : Hp} {ss : List (SK γ)} {x : Str} (i : Nat) {f : γ → α} (hk : ss[i]? = some (.v fun g => enc (f g)) ∨ ss[i]? = some (.o fun g => enc (f g)))
    (hN : X.N[i]? = some x) (hv : Vis X.env.scope x) (hd : (x == ("__debug__" : Str)) = false) (hcd : (x == ("__classdict__" : Str)) = false) :
    EV X W (Rr X.K W.Av H0 ss) (.Name x pos) (fun g => (pure (f g) : m α)) := fun g s x s' r σ H hR hW Q q => by
  obtain ⟨rfl, rfl⟩ := run_pure_some r
  obtain ⟨v, e, p⟩ := hR.get hk
  exact wE.of (pe_var hN hv hd hcd) ⟨v, e, q v H (.refl _ _) hW p⟩
theorem E_int {i : Int} {j} : EV X W R (.Constant (.int i) j pos) (fun _ => (pure i : m Int)) := fun g s x s' r σ H hR hW Q q => by
  obtain ⟨rfl, rfl⟩ := run_pure_some r
  exact wE.of pe_int (q _ H (.refl _ _) hW (.int _))
theorem E_bl {i : Bool} {j} : EV X W R (.Constant (.bool i) j pos) (fun _ => (pure i : m Bool)) := fun g s x s' r σ H hR hW Q q => by
  obtain ⟨rfl, rfl⟩ := run_pure_some r
  exact wE.of pe_bl (q _ H (.refl _ _) hW (.bl _))
theorem E_str {i : Str} {j} : EV X W R (.Constant (.str i) j pos) (fun _ => (pure i : m Str)) := fun g s x s' r σ H hR hW Q q => by
  obtain ⟨rfl, rfl⟩ := run_pure_some r
  exact wE.of pe_str (q _ H (.refl _ _) hW (.str _))
theorem E_none {j} : EV X W R (.Constant .none j pos) (fun _ => (pure none : m (Option α))) := fun g s x s' r σ H hR hW Q q => by
  obtain ⟨rfl, rfl⟩ := run_pure_some r
  exact wE.of pe_non (q _ H (.refl _ _) hW .non)
/-- data told otherwise -/
theorem E_as {f : γ → m α} (c : α → β) (h : EV X W R e f) (hc : ∀ x, (enc (c x) : PyData) = enc x := by intro _; rfl) : EV X W R e (fun g => f g >>= fun x => pure (c x)) := fun g s x s' r σ H hR hW Q q => by
  obtain ⟨y, s1, h1, h2⟩ := run_bind_some r
  obtain ⟨rfl, rfl⟩ := run_pure_some h2
  exact h g s y s1 h1 σ H hR hW Q fun v H' g1 w1 p => q v H' g1 w1 (by rw [hc]; exact p)
/-- .. where it is so -/
theorem E_cast {f : γ → m α} (c : α → Option β) (h : EV X W R e f) (hc : ∀ x y, c x = some y → (enc y : PyData) = enc x) : EV X W R e (fun g => f g >>= fun x => MR.lift (c x)) := fun g s x s' r σ H hR hW Q q => by
  obtain ⟨y, s1, h1, h2⟩ := run_bind_some r
  obtain ⟨h3, rfl⟩ := run_lift_some h2
  exact h g s y s1 h1 σ H hR hW Q fun v H' g1 w1 p => q v H' g1 w1 (by rw [hc _ _ h3]; exact p)

/-- two values, one behind the other -/
theorem EV.two {f : γ → m α} {k : γ → m β} (sb : Stb W R) (ha : EV X W R a f) (hb : EV X W R b k) {g : γ} {s s1 s2 : S} {x : α} {y : β} (h1 : MR.run (f g) s = some (x, s1)) (h2 : MR.run (k g) s1 = some (y, s2)) {σ : Sg} {H : Hp} (hR : R g σ H) (hW : W.WI s H)
    {Q : V → V → Hp → Prop} (q : ∀ v u H', gr W.Av H H' → W.WI s2 H' → Rp X.K W.Av H' v (enc x) → Rp X.K W.Av H' u (enc y) → Q v u H') :
    wE X a σ H fun v H1 => wE X b σ H1 fun u H2 => Q v u H2 :=
  ha g s x s1 h1 σ H hR hW _ fun v H1 g1 w1 p1 => hb g s1 y s2 h2 σ H1 (sb g σ H H1 hR g1) w1 _ fun u H2 g2 w2 p2 => q v u H2 (g1.trans g2) w2 (p1.mono g2) p2

/-- an operator on two ints -/
theorem E_opI {op : Operator} {C : Int → Int → Prop} {G : Int → Int → Int} (o : Int → Int → Option Int) (ho : ∀ {Y : Cx}, OpR Y (binaryOp op) (rI C fun i j => .int (G i j))) (hc : ∀ i j z, o i j = some z → C i j ∧ z = G i j)
    (sb : Stb W R) {f k : γ → m Int} (ha : EV X W R a f) (hb : EV X W R b k) : EV X W R (.BinOp a op b pos) (fun g => f g >>= fun i => k g >>= fun j => MR.lift (o i j)) := fun g s x s' r σ H hR hW Q q => by
  obtain ⟨i, s1, h1, r⟩ := run_bind_some r
  obtain ⟨j, s2, h2, r⟩ := run_bind_some r
  obtain ⟨h3, rfl⟩ := run_lift_some r
  obtain ⟨c1, rfl⟩ := hc i j x h3
  exact wE.of (pe_op ho (peW a) (peW b)) (EV.two sb ha hb h1 h2 hR hW fun v u H' g1 w1 p1 p2 => ⟨i, j, p1.int_inv, p2.int_inv, c1, q _ H' g1 w1 (.int _)⟩)
/-- .. that always goes -/
theorem E_opI0 {op : Operator} {G : Int → Int → Int} (ho : ∀ {Y : Cx}, OpR Y (binaryOp op) (rI0 fun i j => .int (G i j)))
    (sb : Stb W R) {f k : γ → m Int} (ha : EV X W R a f) (hb : EV X W R b k) : EV X W R (.BinOp a op b pos) (fun g => f g >>= fun i => k g >>= fun j => pure (G i j)) := fun g s x s' r σ H hR hW Q q => by
  obtain ⟨i, s1, h1, r⟩ := run_bind_some r
  obtain ⟨j, s2, h2, r⟩ := run_bind_some r
  obtain ⟨rfl, rfl⟩ := run_pure_some r
  exact wE.of (pe_op ho (peW a) (peW b)) (EV.two sb ha hb h1 h2 hR hW fun v u H' g1 w1 p1 p2 => ⟨i, j, p1.int_inv, p2.int_inv, q _ H' g1 w1 (.int _)⟩)
end
end TC

namespace TC
open PySem PySem.Spec PyProof.Rows L2
open Py (enc)

/-! ### equality -/
class Deq (α : Type) [Py α] [DecidableEq α] where
  shp : α → Bool
  dep : Nat
  lay : ∀ x : α, shp x = true → (enc x).canLay0 = true
  dpt : ∀ x : α, (enc x).depth ≤ dep
  eqv : ∀ x y : α, PyData.eqv (enc x) (enc y) = decide (x = y)
class NN (α : Type) [Py α] : Prop where
  nn : ∀ x : α, (enc x) ≠ PyData.none
open Deq (shp)
instance : Deq Int := ⟨fun _ => true, 0, fun _ _ => by simp [enc, PyData.canLay0], fun _ => by simp [enc, PyData.depth], fun x y => by simp [enc, PyData.eqv]; exact Bool.beq_eq_decide_eq x y⟩
instance : NN Int := ⟨fun _ h => nomatch h⟩
instance : Deq Bool := ⟨fun _ => true, 0, fun _ _ => by simp [enc, PyData.canLay0], fun _ => by simp [enc, PyData.depth], fun x y => by simp [enc, PyData.eqv]; exact Bool.beq_eq_decide_eq x y⟩
instance : NN Bool := ⟨fun _ h => nomatch h⟩
instance : Deq Str := ⟨PyData.strOk, 0, fun x h => by simp only [enc, PyData.canLay0]; exact h, fun _ => by simp [enc, PyData.depth], fun x y => by simp [enc, PyData.eqv]; exact Bool.beq_eq_decide_eq x y⟩
instance : NN Str := ⟨fun _ h => nomatch h⟩
instance {α : Type} [Py α] [DecidableEq α] [Deq α] [NN α] : Deq (Option α) where
  shp o := match o with | none => true | some x => shp x
  dep := Deq.dep α
  lay o h := match o, h with
    | none, _ => by simp [enc, PyData.canLay0]
    | some x, h => Deq.lay x h
  dpt o := match o with
    | none => by simp [enc, PyData.depth]
    | some x => Deq.dpt x
  eqv x y := match x, y with
    | none, none => by simp [enc, PyData.eqv]
    | none, some y => by
      have h := NN.nn y
      have e : decide ((none : Option α) = some y) = false := by simp
      rw [e]
      show PyData.eqv .none (enc y) = false
      cases q : (enc y : PyData) <;> first | exact absurd q h | simp [PyData.eqv]
    | some x, none => by
      have h := NN.nn x
      have e : decide (some x = (none : Option α)) = false := by simp
      rw [e]
      show PyData.eqv (enc x) .none = false
      cases q : (enc x : PyData) <;> first | exact absurd q h | simp [PyData.eqv]
    | some x, some y => by
      show PyData.eqv (enc x) (enc y) = _
      rw [Deq.eqv]
      simp
theorem eqvAll2 {α β : Type} [Py α] [Py β] [DecidableEq α] [DecidableEq β] [Deq α] [Deq β] (x y : α) (a b : β) : PyData.eqvAll [enc x, enc a] [enc y, enc b] = (decide (x = y) && decide (a = b)) := by
  simp [PyData.eqvAll, Deq.eqv]
instance {α β : Type} [Py α] [Py β] [DecidableEq α] [DecidableEq β] [Deq α] [Deq β] : Deq (α × β) where
  shp p := shp p.1 && shp p.2
  dep := max (Deq.dep α) (Deq.dep β) + 1
  lay p h := by
    simp only [Bool.and_eq_true] at h
    simp [enc, PyData.canLay0, PyData.canLayAll0, Deq.lay p.1 h.1, Deq.lay p.2 h.2]
  dpt p := by
    have h1 := Deq.dpt p.1
    have h2 := Deq.dpt p.2
    simp only [enc, PyData.depth, PyData.depthAll] at *
    omega
  eqv p q := by
    obtain ⟨a, b⟩ := p
    obtain ⟨c, d⟩ := q
    simp [enc, PyData.eqv, PyData.eqvAll, Deq.eqv, Bool.decide_and]
instance {α β : Type} [Py α] [Py β] : NN (α × β) := ⟨fun _ h => nomatch h⟩
instance {α β γ : Type} [Py α] [Py β] [Py γ] [DecidableEq α] [DecidableEq β] [DecidableEq γ] [Deq α] [Deq β] [Deq γ] : Deq (T3 α β γ) where
  shp p := shp p.a && shp p.b && shp p.c
  dep := max (Deq.dep α) (max (Deq.dep β) (Deq.dep γ)) + 1
  lay p h := by
    simp only [Bool.and_eq_true] at h
    simp [enc, PyData.canLay0, PyData.canLayAll0, Deq.lay p.a h.1.1, Deq.lay p.b h.1.2, Deq.lay p.c h.2]
  dpt p := by
    have h1 := Deq.dpt p.a
    have h2 := Deq.dpt p.b
    have h3 := Deq.dpt p.c
    simp only [enc, PyData.depth, PyData.depthAll] at *
    omega
  eqv p q := by
    obtain ⟨a, b, e⟩ := p
    obtain ⟨c, d, f⟩ := q
    simp [enc, PyData.eqv, PyData.eqvAll, Deq.eqv, Bool.decide_and]
instance {α β γ : Type} [Py α] [Py β] [Py γ] : NN (T3 α β γ) := ⟨fun _ h => nomatch h⟩
instance {α β γ δ : Type} [Py α] [Py β] [Py γ] [Py δ] [DecidableEq α] [DecidableEq β] [DecidableEq γ] [DecidableEq δ] [Deq α] [Deq β] [Deq γ] [Deq δ] : Deq (T4 α β γ δ) where
  shp p := shp p.a && shp p.b && shp p.c && shp p.d
  dep := max (Deq.dep α) (max (Deq.dep β) (max (Deq.dep γ) (Deq.dep δ))) + 1
  lay p h := by
    simp only [Bool.and_eq_true] at h
    simp [enc, PyData.canLay0, PyData.canLayAll0, Deq.lay p.a h.1.1.1, Deq.lay p.b h.1.1.2, Deq.lay p.c h.1.2, Deq.lay p.d h.2]
  dpt p := by
    have h1 := Deq.dpt p.a
    have h2 := Deq.dpt p.b
    have h3 := Deq.dpt p.c
    have h4 := Deq.dpt p.d
    simp only [enc, PyData.depth, PyData.depthAll] at *
    omega
  eqv p q := by
    obtain ⟨a, b, e, k⟩ := p
    obtain ⟨c, d, f, l⟩ := q
    simp [enc, PyData.eqv, PyData.eqvAll, Deq.eqv, Bool.decide_and]
instance {α β γ δ : Type} [Py α] [Py β] [Py γ] [Py δ] : NN (T4 α β γ δ) := ⟨fun _ h => nomatch h⟩
theorem canLayAll_map {α : Type} [Py α] [DecidableEq α] [Deq α] : ∀ xs : List α, xs.all shp = true → PyData.canLayAll0 (xs.map enc) = true
  | [], _ => by simp [PyData.canLayAll0]
  | x :: xs, h => by
    simp only [List.all_cons, Bool.and_eq_true] at h
    simp [PyData.canLayAll0, Deq.lay x h.1, canLayAll_map xs h.2]
theorem depthAll_map {α : Type} [Py α] [DecidableEq α] [Deq α] : ∀ xs : List α, PyData.depthAll (xs.map enc) ≤ Deq.dep α
  | [] => by simp [PyData.depthAll]
  | x :: xs => by
    have h1 := Deq.dpt x
    have h2 := depthAll_map xs
    simp only [List.map_cons, PyData.depthAll]
    omega
theorem eqvAll_map {α : Type} [Py α] [DecidableEq α] [Deq α] : ∀ xs ys : List α, PyData.eqvAll (xs.map enc) (ys.map enc) = decide (xs = ys)
  | [], [] => by simp [PyData.eqvAll]
  | [], y :: ys => by simp [PyData.eqvAll]
  | x :: xs, [] => by simp [PyData.eqvAll]
  | x :: xs, y :: ys => by simp [PyData.eqvAll, Deq.eqv, eqvAll_map xs ys, Bool.decide_and]
instance {α : Type} [Py α] [DecidableEq α] [Deq α] : Deq (List α) where
  shp xs := xs.all shp
  dep := Deq.dep α + 1
  lay xs h := by simp [enc, PyData.canLay0, canLayAll_map xs h]
  dpt xs := by
    have := depthAll_map xs
    simp only [enc, PyData.depth]
    omega
  eqv xs ys := by
    simp only [enc, PyData.eqv]
    exact eqvAll_map xs ys
instance {α : Type} [Py α] : NN (List α) := ⟨fun _ h => nomatch h⟩
instance {α : Type} [Py α] [DecidableEq α] [Deq α] : Deq (Ls α) where
  shp xs := xs.l.all shp
  dep := Deq.dep α + 1
  lay xs h := by simp [enc, PyData.canLay0, canLayAll_map xs.l h]
  dpt xs := by
    have := depthAll_map xs.l
    simp only [enc, PyData.depth]
    omega
  eqv xs ys := by
    obtain ⟨xs⟩ := xs
    obtain ⟨ys⟩ := ys
    simp only [enc, PyData.eqv]
    rw [eqvAll_map xs ys]
    simp
instance {α : Type} [Py α] : NN (Ls α) := ⟨fun _ h => nomatch h⟩

section
variable {K : PySem.W.Frag} {A : Addr → Prop} {H : Hp}
mutual
theorem Rp.dp : ∀ {v : V} {d : PyData}, d.canLay0 = true → Rp K A H v d → Dp K H v d
  | _, _, _, .non => .non
  | _, _, _, .bl b => .bl b
  | _, _, _, .int i => .int i
  | _, _, _, .str i => .str i
  | _, _, i, .tup z h t => .tup h (RpAll.dp (by simpa [PyData.canLay0] using i) t)
  | _, _, i, .obj n (.lst z h t) => .lst (.of h) (RpAll.dp (by simpa [PyData.canLay0] using i) t)
  | _, _, i, .obj n (.dK _ _ _) => by simp [PyData.canLay0] at i
  | _, _, i, .obj n (.dT _ _ _) => by simp [PyData.canLay0] at i
theorem RpAll.dp : ∀ {v : List V} {d : List PyData}, PyData.canLayAll0 d = true → RpAll K A H v d → DpAll K H v d
  | _, _, _, .nil => .nil
  | _, _, i, .cons h t => by
    simp only [PyData.canLayAll0, Bool.and_eq_true] at i
    exact .cons (Rp.dp i.1 h) (RpAll.dp i.2 t)
end
end
/-- x == y -/
def eqM {α : Type} [Py α] [DecidableEq α] [Deq α] (x y : α) : Option Bool := if shp x = true ∧ shp y = true then some (decide (x = y)) else none
def neM {α : Type} [Py α] [DecidableEq α] [Deq α] (x y : α) : Option Bool := if shp x = true ∧ shp y = true then some (!decide (x = y)) else none
def mulM (i j : Int) : Option Int := if i.natAbs < 2 ^ 9000 ∧ j.natAbs < 2 ^ 9000 then some (i * j) else none
def divM (i j : Int) : Option Int := if j ≠ 0 ∧ j.natAbs < 1073741824 then some (i.fdiv j) else none
def divW (i j : Int) : Option Int := if 0 < j ∧ j.natAbs < 2 ^ 9000 then some (i / j) else none
def modM (i j : Int) : Option Int := if j ≠ 0 then some (i.fmod j) else none

section
variable {S : Type} {m : Type → Type} [Monad m] [MR m S] {γ α β : Type} [Py α] [Py β] {X : Cx} {W : Wd S} {R : γ → Sg → Hp → Prop} {e a b c : Expr} {es rest : List Expr} {pos : Pos}
theorem E_add (sb : Stb W R) {f k : γ → m Int} (ha : EV X W R a f) (hb : EV X W R b k) : EV X W R (.BinOp a .Add b pos) (fun g => f g >>= fun i => k g >>= fun j => pure (i + j)) := E_opI0 (fun {_} => op_add) sb ha hb
theorem E_sub (sb : Stb W R) {f k : γ → m Int} (ha : EV X W R a f) (hb : EV X W R b k) : EV X W R (.BinOp a .Sub b pos) (fun g => f g >>= fun i => k g >>= fun j => pure (i - j)) := E_opI0 (fun {_} => op_sub) sb ha hb
theorem E_mul (sb : Stb W R) {f k : γ → m Int} (ha : EV X W R a f) (hb : EV X W R b k) : EV X W R (.BinOp a .Mult b pos) (fun g => f g >>= fun i => k g >>= fun j => MR.lift (mulM i j)) :=
  E_opI mulM (fun {_} => op_mulW) (fun i j z h => by
    unfold mulM at h
    split at h
    · rename_i q
      cases h
      exact ⟨wide_mul q.1 q.2 (by decide) (by decide) (by decide), rfl⟩
    · cases h) sb ha hb
theorem E_div (sb : Stb W R) {f k : γ → m Int} (ha : EV X W R a f) (hb : EV X W R b k) : EV X W R (.BinOp a .FloorDiv b pos) (fun g => f g >>= fun i => k g >>= fun j => MR.lift (divM i j)) :=
  E_opI divM (fun {_} => op_fdivN) (fun i j z h => by
    unfold divM at h
    split at h
    · rename_i q
      cases h
      exact ⟨q, rfl⟩
    · cases h) sb ha hb
theorem E_divW (sb : Stb W R) {f k : γ → m Int} (ha : EV X W R a f) (hb : EV X W R b k) : EV X W R (.BinOp a .FloorDiv b pos) (fun g => f g >>= fun i => k g >>= fun j => MR.lift (divW i j)) :=
  E_opI divW (fun {_} => op_fdivW) (fun i j z h => by
    unfold divW at h
    split at h
    · rename_i q
      cases h
      exact ⟨wide_div q.1 q.2 (by decide) (by decide), rfl⟩
    · cases h) sb ha hb
theorem E_mod (sb : Stb W R) {f k : γ → m Int} (ha : EV X W R a f) (hb : EV X W R b k) : EV X W R (.BinOp a .Mod b pos) (fun g => f g >>= fun i => k g >>= fun j => MR.lift (modM i j)) :=
  E_opI modM (fun {_} => op_modN) (fun i j z h => by
    unfold modM at h
    split at h
    · rename_i q
      cases h
      exact ⟨q, rfl⟩
    · cases h) sb ha hb
theorem E_neg {f : γ → m Int} (ha : EV X W R a f) : EV X W R (.UnaryOp .USub a pos) (fun g => f g >>= fun i => pure (-i)) := fun g s x s' r σ H hR hW Q q => by
  obtain ⟨i, s1, h1, r⟩ := run_bind_some r
  obtain ⟨rfl, rfl⟩ := run_pure_some r
  exact wE.of (pe_un un_neg (peW a)) (ha g s i _ h1 σ H hR hW _ fun v H' g1 w1 p => ⟨i, p.int_inv, q _ H' g1 w1 (.int _)⟩)
/-- a comparison -/
def CV (X : Cx) (W : Wd S) (R : γ → Sg → Hp → Prop) (op : CmpOp) (a b : Expr) (f : γ → m Bool) : Prop := ∃ r : R2, OpR X (compareOp op) r ∧
  ∀ g s x s', MR.run (f g) s = some (x, s') → ∀ σ H, R g σ H → W.WI s H → ∀ Q : VK, (∀ H', gr W.Av H H' → W.WI s' H' → Q (.bl x) H') → tOp r (wE X a) (wE X b) σ H Q
theorem E_cmp {op : CmpOp} {f : γ → m Bool} (h : CV X W R op a b f) (nb : behindInMarks op b = false := by first | exact nobehind _ (by decide) (by decide) | rfl) : EV X W R (.Compare a [op] [b] pos) f := fun g s x s' r σ H hR hW Q q => by
  obtain ⟨r2, ho, h⟩ := h
  exact wE.of (pe_cmpR ho (peW a) (peW b) nb) (h g s x s' r σ H hR hW Q fun H' g1 w1 => q _ H' g1 w1 (.bl _))
theorem T_cmp {op : CmpOp} {f : γ → m Bool} (h : CV X W R op a b f) (nb : behindInMarks op b = false := by first | exact nobehind _ (by decide) (by decide) | rfl) : TV X W R (.Compare a [op] [b] pos) f := fun g s x s' r σ H hR hW Q q => by
  obtain ⟨r2, ho, h⟩ := h
  exact wT.of (pt_cmpR ho (peW a) (peW b) nb) (h g s x s' r σ H hR hW _ fun H' g1 w1 => ⟨x, rfl, q H' g1 w1⟩)
/-- .. of ints -/
theorem C_int {op : CmpOp} (G : Int → Int → Bool) (ho : OpR X (compareOp op) (rI0 fun i j => .bl (G i j)))
    (sb : Stb W R) {f k : γ → m Int} (ha : EV X W R a f) (hb : EV X W R b k) : CV X W R op a b (fun g => f g >>= fun i => k g >>= fun j => pure (G i j)) := ⟨_, ho, fun g s x s' r σ H hR hW Q q => by
  obtain ⟨i, s1, h1, r⟩ := run_bind_some r
  obtain ⟨j, s2, h2, r⟩ := run_bind_some r
  obtain ⟨rfl, rfl⟩ := run_pure_some r
  exact EV.two sb ha hb h1 h2 hR hW fun v u H' g1 w1 p1 p2 => ⟨i, j, p1.int_inv, p2.int_inv, q H' g1 w1⟩⟩
theorem C_lt (sb : Stb W R) {f k : γ → m Int} (ha : EV X W R a f) (hb : EV X W R b k) : CV X W R .Lt a b (fun g => f g >>= fun i => k g >>= fun j => pure (decide (i < j))) := C_int _ op_lt sb ha hb
theorem C_le (sb : Stb W R) {f k : γ → m Int} (ha : EV X W R a f) (hb : EV X W R b k) : CV X W R .LtE a b (fun g => f g >>= fun i => k g >>= fun j => pure (decide (i ≤ j))) := C_int _ op_le sb ha hb
theorem C_gt (sb : Stb W R) {f k : γ → m Int} (ha : EV X W R a f) (hb : EV X W R b k) : CV X W R .Gt a b (fun g => f g >>= fun i => k g >>= fun j => pure (decide (j < i))) := C_int (fun i j => decide (j < i)) op_gt sb ha hb
theorem C_ge (sb : Stb W R) {f k : γ → m Int} (ha : EV X W R a f) (hb : EV X W R b k) : CV X W R .GtE a b (fun g => f g >>= fun i => k g >>= fun j => pure (decide (j ≤ i))) := C_int (fun i j => decide (j ≤ i)) op_ge sb ha hb
theorem shaped_of [DecidableEq α] [Deq α] (hd : Deq.dep α ≤ 64) (x : α) (h : shp x = true) : SeqAt.shaped (enc x) = true := by
  unfold SeqAt.shaped
  rw [Deq.lay x h]
  have := Deq.dpt x
  simp
  omega
theorem C_eq [DecidableEq α] [Deq α] (hu : X.A.units + 64 < cLine) (sb : Stb W R) {f k : γ → m α} (ha : EV X W R a f) (hb : EV X W R b k) (hd : Deq.dep α ≤ 64 := by decide) : CV X W R .Eq a b (fun g => f g >>= fun i => k g >>= fun j => MR.lift (eqM i j)) := ⟨_, op_eqD hu, fun g s x s' r σ H hR hW Q q => by
  obtain ⟨i, s1, h1, r⟩ := run_bind_some r
  obtain ⟨j, s2, h2, r⟩ := run_bind_some r
  obtain ⟨h3, rfl⟩ := run_lift_some r
  unfold eqM at h3
  split at h3
  · rename_i c1
    cases h3
    exact EV.two sb ha hb h1 h2 hR hW fun v u H' g1 w1 p1 p2 =>
      ⟨enc i, enc j, p1.dp (Deq.lay i c1.1), p2.dp (Deq.lay j c1.2), shaped_of hd i c1.1, shaped_of hd j c1.2, by rw [Deq.eqv]; exact q H' g1 w1⟩
  · cases h3⟩
theorem C_ne [DecidableEq α] [Deq α] (hu : X.A.units + 64 < cLine) (sb : Stb W R) {f k : γ → m α} (ha : EV X W R a f) (hb : EV X W R b k) (hd : Deq.dep α ≤ 64 := by decide) : CV X W R .NotEq a b (fun g => f g >>= fun i => k g >>= fun j => MR.lift (neM i j)) := ⟨_, op_neD hu, fun g s x s' r σ H hR hW Q q => by
  obtain ⟨i, s1, h1, r⟩ := run_bind_some r
  obtain ⟨j, s2, h2, r⟩ := run_bind_some r
  obtain ⟨h3, rfl⟩ := run_lift_some r
  unfold neM at h3
  split at h3
  · rename_i c1
    cases h3
    exact EV.two sb ha hb h1 h2 hR hW fun v u H' g1 w1 p1 p2 =>
      ⟨enc i, enc j, p1.dp (Deq.lay i c1.1), p2.dp (Deq.lay j c1.2), shaped_of hd i c1.1, shaped_of hd j c1.2, by rw [Deq.eqv]; exact q H' g1 w1⟩
  · cases h3⟩
theorem Rp.isNon [NN α] {K : PySem.W.Frag} {A : Addr → Prop} {H : Hp} {v : V} {o : Option α} (p : Rp K A H v (enc o)) : decide (v = .non) = o.isNone := by
  cases o with
  | none => rw [p.non_inv]; rfl
  | some x =>
    have h := NN.nn x
    have p : Rp K A H v (enc x) := p
    generalize (enc x : PyData) = d at p h
    cases p with
    | non => exact absurd rfl h
    | _ => rfl
theorem C_isN [NN α] (sb : Stb W R) {f : γ → m (Option α)} {j : Nat} {p' : Pos} (ha : EV X W R a f) : CV X W R .Is a (.Constant .none j p') (fun g => f g >>= fun i => pure i.isNone) := ⟨_, op_isN, fun g s x s' r σ H hR hW Q q => by
  obtain ⟨i, s1, h1, r⟩ := run_bind_some r
  obtain ⟨rfl, rfl⟩ := run_pure_some r
  exact ha g s i _ h1 σ H hR hW _ fun v H' g1 w1 p => wE.of pe_non ⟨rfl, by rw [p.isNon]; exact q H' g1 w1⟩⟩
theorem C_notN [NN α] (sb : Stb W R) {f : γ → m (Option α)} {j : Nat} {p' : Pos} (ha : EV X W R a f) : CV X W R .IsNot a (.Constant .none j p') (fun g => f g >>= fun i => pure i.isSome) := ⟨_, op_notN, fun g s x s' r σ H hR hW Q q => by
  obtain ⟨i, s1, h1, r⟩ := run_bind_some r
  obtain ⟨rfl, rfl⟩ := run_pure_some r
  exact ha g s i _ h1 σ H hR hW _ fun v H' g1 w1 p => wE.of pe_non ⟨rfl, by
    rw [p.isNon]
    have : (!i.isNone) = i.isSome := by cases i <;> rfl
    rw [this]
    exact q H' g1 w1⟩⟩
/-- a op1 b op2 c, of ints -/
theorem E_chain {op op' : CmpOp} {G G' : Int → Int → Bool} (ho : OpR X (compareOp op) (rI0 fun i j => .bl (G i j))) (ho' : OpR X (compareOp op') (rI0 fun i j => .bl (G' i j)))
    (sb : Stb W R) {f k l : γ → m Int} (ha : EV X W R a f) (hb : EV X W R b k) (hc : EV X W R c l) (hm : lastMarks [op, op'] [b, c] = false := by with_unfolding_all rfl) :
    EV X W R (.Compare a [op, op'] [b, c] pos) (fun g => f g >>= fun i => k g >>= fun j => if G i j = true then l g >>= fun n => pure (G' j n) else pure false) := fun g s x s' r σ H hR hW Q q => by
  obtain ⟨i, s1, h1, r⟩ := run_bind_some r
  obtain ⟨j, s2, h2, r⟩ := run_bind_some r
  refine wE.of (pe_chain ho ho' (peW a) (peW b) (peW c) hm) (EV.two sb ha hb h1 h2 hR hW fun v u H' g1 w1 p1 p2 => ⟨i, j, p1.int_inv, p2.int_inv, _, rfl, ?_⟩)
  cases hG : G i j with
  | false =>
    rw [hG] at r
    simp only [Bool.false_eq_true, if_false] at r ⊢
    obtain ⟨rfl, rfl⟩ := run_pure_some r
    exact q _ H' g1 w1 (.bl _)
  | true =>
    rw [hG] at r
    simp only [if_true] at r ⊢
    obtain ⟨n, s3, h3, r⟩ := run_bind_some r
    obtain ⟨rfl, rfl⟩ := run_pure_some r
    exact hc g s2 n _ h3 σ H' (sb g σ H H' hR g1) w1 _ fun w H2 g2 w2 p3 => ⟨j, n, (p2.mono g2).int_inv, p3.int_inv, q _ H2 (g1.trans g2) w2 (.bl _)⟩
theorem T_chain {op op' : CmpOp} {G G' : Int → Int → Bool} (ho : OpR X (compareOp op) (rI0 fun i j => .bl (G i j))) (ho' : OpR X (compareOp op') (rI0 fun i j => .bl (G' i j)))
    (sb : Stb W R) {f k l : γ → m Int} (ha : EV X W R a f) (hb : EV X W R b k) (hc : EV X W R c l) (hm : lastMarks [op, op'] [b, c] = false := by with_unfolding_all rfl) :
    TV X W R (.Compare a [op, op'] [b, c] pos) (fun g => f g >>= fun i => k g >>= fun j => if G i j = true then l g >>= fun n => pure (G' j n) else pure false) := fun g s x s' r σ H hR hW Q q => by
  obtain ⟨i, s1, h1, r⟩ := run_bind_some r
  obtain ⟨j, s2, h2, r⟩ := run_bind_some r
  refine wT.of (pt_chain ho ho' (peW a) (peW b) (peW c) hm) (EV.two sb ha hb h1 h2 hR hW fun v u H' g1 w1 p1 p2 => ⟨i, j, p1.int_inv, p2.int_inv, _, rfl, ?_⟩)
  cases hG : G i j with
  | false =>
    rw [hG] at r
    simp only [Bool.false_eq_true, if_false] at r ⊢
    obtain ⟨rfl, rfl⟩ := run_pure_some r
    exact ⟨_, rfl, q H' g1 w1⟩
  | true =>
    rw [hG] at r
    simp only [if_true] at r ⊢
    obtain ⟨n, s3, h3, r⟩ := run_bind_some r
    obtain ⟨rfl, rfl⟩ := run_pure_some r
    exact hc g s2 n _ h3 σ H' (sb g σ H H' hR g1) w1 _ fun w H2 g2 w2 p3 => ⟨j, n, (p2.mono g2).int_inv, p3.int_inv, _, rfl, q H2 (g1.trans g2) w2⟩

/-! and, or, not, if -/
theorem T_val {f : γ → m Bool} (h : EV X W R e f) (he : ∀ whole, isTrue e X.env whole = (do let v ← whole; standAt e.pos; holding [v] (truthy v)) := by intro _; rfl) : TV X W R e f := fun g s x s' r σ H hR hW Q q =>
  wT.of (pt_val (peW e) he) (h g s x s' r σ H hR hW _ fun v H' g1 w1 p => ⟨x, p.bl_inv, q H' g1 w1⟩)
theorem T_not {f : γ → m Bool} (h : TV X W R a f) : TV X W R (.UnaryOp .Not a pos) (fun g => f g >>= fun x => pure (!x)) := fun g s x s' r σ H hR hW Q q => by
  obtain ⟨i, s1, h1, r⟩ := run_bind_some r
  obtain ⟨rfl, rfl⟩ := run_pure_some r
  exact wT.of (pt_not (ptW a)) (h g s i _ h1 σ H hR hW _ fun H' g1 w1 => q H' g1 w1)
theorem E_not {f : γ → m Bool} (h : EV X W R a f) : EV X W R (.UnaryOp .Not a pos) (fun g => f g >>= fun x => pure (!x)) := fun g s x s' r σ H hR hW Q q => by
  obtain ⟨i, s1, h1, r⟩ := run_bind_some r
  obtain ⟨rfl, rfl⟩ := run_pure_some r
  exact wE.of (pe_not (peW a)) (h g s i _ h1 σ H hR hW _ fun v H' g1 w1 p => ⟨i, p.bl_inv, q _ H' g1 w1 (.bl _)⟩)
theorem E_bone {op} {f : γ → m Bool} (h : EV X W R a f) : EV X W R (.BoolOp op [a] pos) f := fun g s x s' r σ H hR hW Q q => wE.of (pe_one (peW a)) (h g s x s' r σ H hR hW Q q)
theorem E_and (sb : Stb W R) {f k : γ → m Bool} (h : EV X W R a f) (hr : EV X W R (.BoolOp .And (b :: rest) pos) k) : EV X W R (.BoolOp .And (a :: b :: rest) pos) (fun g => f g >>= fun x => if x = true then k g else pure false) := fun g s x s' r σ H hR hW Q q => by
  obtain ⟨i, s1, h1, r⟩ := run_bind_some r
  refine wE.of (pe_and (peW a) (peW _)) (h g s i _ h1 σ H hR hW _ fun v H' g1 w1 p => ⟨i, p.bl_inv, ?_⟩)
  cases i with
  | false =>
    simp only [Bool.false_eq_true, if_false] at r ⊢
    obtain ⟨rfl, rfl⟩ := run_pure_some r
    exact q _ H' g1 w1 (.bl _)
  | true =>
    simp only [if_true] at r ⊢
    exact hr g s1 x s' r σ H' (sb g σ H H' hR g1) w1 _ fun w H2 g2 w2 p3 => q _ H2 (g1.trans g2) w2 p3
theorem E_or (sb : Stb W R) {f k : γ → m Bool} (h : EV X W R a f) (hr : EV X W R (.BoolOp .Or (b :: rest) pos) k) : EV X W R (.BoolOp .Or (a :: b :: rest) pos) (fun g => f g >>= fun x => if x = true then pure true else k g) := fun g s x s' r σ H hR hW Q q => by
  obtain ⟨i, s1, h1, r⟩ := run_bind_some r
  refine wE.of (pe_or (peW a) (peW _)) (h g s i _ h1 σ H hR hW _ fun v H' g1 w1 p => ⟨i, p.bl_inv, ?_⟩)
  cases i with
  | true =>
    simp only [if_true] at r ⊢
    obtain ⟨rfl, rfl⟩ := run_pure_some r
    exact q _ H' g1 w1 (.bl _)
  | false =>
    simp only [Bool.false_eq_true, if_false] at r ⊢
    exact hr g s1 x s' r σ H' (sb g σ H H' hR g1) w1 _ fun w H2 g2 w2 p3 => q _ H2 (g1.trans g2) w2 p3
theorem W_and1 {f : γ → m Bool} (h : TV X W R a f) : TW X W R (.BoolOp .And [a] pos) f := fun g s x s' r σ H hR hW Q q => wW.of (pw_and1 (ptW a)) (h g s x s' r σ H hR hW Q q)
theorem W_or1 {f : γ → m Bool} (h : TV X W R a f) : TW X W R (.BoolOp .Or [a] pos) f := fun g s x s' r σ H hR hW Q q => wW.of (pw_or1 (ptW a)) (h g s x s' r σ H hR hW Q q)
theorem W_and (sb : Stb W R) {f k : γ → m Bool} (h : TV X W R a f) (hr : TW X W R (.BoolOp .And (b :: rest) pos) k) : TW X W R (.BoolOp .And (a :: b :: rest) pos) (fun g => f g >>= fun x => if x = true then k g else pure false) := fun g s x s' r σ H hR hW Q q => by
  obtain ⟨i, s1, h1, r⟩ := run_bind_some r
  refine wW.of (pw_and (ptW a) (pwW _)) (h g s i _ h1 σ H hR hW _ fun H' g1 w1 => ?_)
  cases i with
  | false =>
    simp only [Bool.false_eq_true, if_false] at r ⊢
    obtain ⟨rfl, rfl⟩ := run_pure_some r
    exact q H' g1 w1
  | true =>
    simp only [if_true] at r ⊢
    exact hr g s1 x s' r σ H' (sb g σ H H' hR g1) w1 _ fun H2 g2 w2 => q H2 (g1.trans g2) w2
theorem W_or (sb : Stb W R) {f k : γ → m Bool} (h : TV X W R a f) (hr : TW X W R (.BoolOp .Or (b :: rest) pos) k) : TW X W R (.BoolOp .Or (a :: b :: rest) pos) (fun g => f g >>= fun x => if x = true then pure true else k g) := fun g s x s' r σ H hR hW Q q => by
  obtain ⟨i, s1, h1, r⟩ := run_bind_some r
  refine wW.of (pw_or (ptW a) (pwW _)) (h g s i _ h1 σ H hR hW _ fun H' g1 w1 => ?_)
  cases i with
  | true =>
    simp only [if_true] at r ⊢
    obtain ⟨rfl, rfl⟩ := run_pure_some r
    exact q H' g1 w1
  | false =>
    simp only [Bool.false_eq_true, if_false] at r ⊢
    exact hr g s1 x s' r σ H' (sb g σ H H' hR g1) w1 _ fun H2 g2 w2 => q H2 (g1.trans g2) w2
theorem E_ifE (sb : Stb W R) {t : γ → m Bool} {f k : γ → m α} (hc : TV X W R c t) (ha : EV X W R a f) (hb : EV X W R b k) : EV X W R (.IfExp c a b pos) (fun g => t g >>= fun x => if x = true then f g else k g) := fun g s x s' r σ H hR hW Q q => by
  obtain ⟨i, s1, h1, r⟩ := run_bind_some r
  refine wE.of (pe_ifExp (ptW c) (peW a) (peW b)) (hc g s i _ h1 σ H hR hW _ fun H' g1 w1 => ?_)
  cases i with
  | true =>
    simp only [if_true] at r ⊢
    exact ha g s1 x s' r σ H' (sb g σ H H' hR g1) w1 _ fun w H2 g2 w2 p3 => q _ H2 (g1.trans g2) w2 p3
  | false =>
    simp only [Bool.false_eq_true, if_false] at r ⊢
    exact hb g s1 x s' r σ H' (sb g σ H H' hR g1) w1 _ fun w H2 g2 w2 p3 => q _ H2 (g1.trans g2) w2 p3
end
end TC

namespace TC
open PySem PySem.Spec PyProof.Rows L2
open Py (enc)

def NS (e : Expr) : Prop := ∀ (env : Env) (es : List Expr), starEach (e :: es) env = (false, eval e env) :: starEach es env
theorem backTo_any (pos : Pos) : ∀ l : List (Bool × Sem Value), (backTo pos l).any (·.1) = l.any (·.1) := by
  intro l
  unfold backTo
  induction l with
  | nil => rfl
  | cons x r ih => simp_all [List.any_cons]
/-- what a def promises, over data -/
def spD (K : PySem.W.Frag) (n : Nat) (M : List PyData → PyData → Prop) : Sp := fun vs H Q _ => vs.length = n ∧ ∃ ds d, RpAll K (fun _ => False) H vs ds ∧ M ds d ∧ ∀ v H', Same H H' → Rp K (fun a => H a ≠ none) H' v d → Q v H'
structure Dfn (P : Program) (w : World) (K : PySem.W.Frag) (mg : Str → Option Value) (base : Heap) (A : Around) (x : Str) (n : Nat) (M : List PyData → PyData → Prop) : Prop where
  ex : ∃ k f fd ps, FnOk P w K mg base CX0 k f fd ps (spD K n M) ∧ Room k A ∧ mg x = some (.ref f) ∧ PySem.W.keepIn K (.ref f) = true ∧ Binds K fd ps []

section
variable {S : Type} {m : Type → Type} [Monad m] [MR m S] {γ α β : Type} [Py α] [Py β] {X : Cx} {W : Wd S} {R : γ → Sg → Hp → Prop} {e a b c : Expr} {es rest : List Expr} {pos : Pos}
theorem A_nil : AVs X W R [] (fun _ => (pure [] : m (List PyData))) := fun g s x s' r σ H hR hW Q q => by
  obtain ⟨rfl, rfl⟩ := run_pure_some r
  exact wA.of pa_nil (q [] H (.refl _ _) hW .nil)
theorem NSs_any : ∀ {es : List Expr}, (∀ e ∈ es, NS e) → ∀ env, (starEach es env).any (·.1) = false
  | [], _, env => by unfold starEach; rfl
  | e :: es, h, env => by
    rw [h e List.mem_cons_self env es]
    have := NSs_any (es := es) (fun e he => h e (List.mem_cons_of_mem _ he)) env
    simp [this]
theorem A_cons {f : γ → m α} {k : γ → m (List PyData)} (sb : Stb W R) (n1 : NS e) (ha : EV X W R e f) (hr : AVs X W R es k) :
    AVs X W R (e :: es) (fun g => f g >>= fun x => k g >>= fun ds => pure (enc x :: ds)) := fun g s x s' r σ H hR hW Q q => by
  obtain ⟨i, s1, h1, r⟩ := run_bind_some r
  obtain ⟨ds, s2, h2, r⟩ := run_bind_some r
  obtain ⟨rfl, rfl⟩ := run_pure_some r
  exact wA.of (pa_cons (peW e) (paW es) (n1 _ _)) (ha g s i s1 h1 σ H hR hW _ fun v H1 g1 w1 p1 => hr g s1 ds _ h2 σ H1 (sb g σ H H1 hR g1) w1 _ fun vs H2 g2 w2 p2 =>
    q _ H2 (g1.trans g2) w2 (.cons (p1.mono g2) p2))
/-- a call, over data -/
theorem call_run {x : Str} {p : Pos} {n : Nat} {M : List PyData → PyData → Prop} (D : Dfn X.prog X.w X.K X.mg X.base X.A x n M) (hg : Gl X x) (hdb : (x == ("__debug__" : Str)) = false) (ns : ∀ a ∈ e :: es, NS a)
    {k : γ → m (List PyData)} (hA : AVs X W R (e :: es) k) {g : γ} {s s1 : S} {ds : List PyData} {d : PyData} (h1 : MR.run (k g) s = some (ds, s1)) (hl : ds.length = n) (hM : M ds d) {σ : Sg} {H : Hp} (hR : R g σ H) (hW : W.WI s H)
    {Q : VK} (q : ∀ v H', gr W.Av H H' → W.WI s1 H' → Rp X.K (fun a => H a ≠ none) H' v d → Q v H') : wE X (.Call (.Name x p) (e :: es) [] pos) σ H Q := by
  obtain ⟨lv, f, fd, ps, F, hr, hm, hk, hb⟩ := D.ex
  refine wE.of (pe_call F hr hg hm hk hb (dvs := []) .nil pass0 (paW _) hdb (ns e List.mem_cons_self _ _) (by
    rw [backTo_any]; exact NSs_any (fun a ha => ns a (List.mem_cons_of_mem _ ha)) _)) ?_
  refine hA g s ds s1 h1 σ H hR hW _ fun vs H1 g1 w1 p1 => ?_
  refine ⟨by rw [List.append_nil, p1.length, hl], ds, d, by rw [List.append_nil]; exact p1.chg fun _ z _ => z.elim, hM, fun v H2 sm p2 => ?_⟩
  exact q v H2 (g1.trans (.of_same sm)) (W.keep s1 H1 H2 w1 fun a o _ z => sm a o z) (p2.weak fun a z => g1.ex a z)
theorem call_run0 {x : Str} {p : Pos} {M : List PyData → PyData → Prop} (D : Dfn X.prog X.w X.K X.mg X.base X.A x 0 M) (hg : Gl X x) (hdb : (x == ("__debug__" : Str)) = false)
    {s : S} {d : PyData} (hM : M [] d) {σ : Sg} {H : Hp} (hW : W.WI s H)
    {Q : VK} (q : ∀ v H', gr W.Av H H' → W.WI s H' → Rp X.K (fun a => H a ≠ none) H' v d → Q v H') : wE X (.Call (.Name x p) [] [] pos) σ H Q := by
  obtain ⟨lv, f, fd, ps, F, hr, hm, hk, hb⟩ := D.ex
  refine wE.of (pe_call0 F hr hg hm hk hb (dvs := []) .nil pass0 hdb) ?_
  refine ⟨rfl, [], d, .nil, hM, fun v H2 sm p2 => ?_⟩
  exact q v H2 (.of_same sm) (W.keep s H H2 hW fun a o _ z => sm a o z) p2
end

/-! 1 -/
def M1 {τ0 ρ : Type} [Py τ0] [Py ρ] (f : τ0 → Option ρ) : List PyData → PyData → Prop := fun ds d => ∃ x0, ds = [enc x0] ∧ ∃ r, f x0 = some r ∧ d = enc r
section
variable {S : Type} {m : Type → Type} [Monad m] [MR m S] {γ τ0 ρ : Type} [Py τ0] [Py ρ] {X : Cx} {W : Wd S} {R : γ → Sg → Hp → Prop} {a0 : Expr} {pos p : Pos}
theorem A_1 {f0 : γ → m τ0} (sb : Stb W R) (n0 : NS a0) (h0 : EV X W R a0 f0) : AVs X W R [a0] (fun g => f0 g >>= fun x0 => pure [enc x0]) := by
  have h := A_cons sb n0 h0 (A_nil (X := X) (W := W) (R := R) (m := m))
  intro g s x s' r
  refine h g s x s' ?_
  simp only [MR.run_bind, MR.run_pure] at r ⊢
  rw [← r]
  simp [MR.run_bind, MR.run_pure, Option.bind_assoc, Function.comp_def]
theorem E_call1 {fn : τ0 → Option ρ} {x : Str} {f0 : γ → m τ0} (D : Dfn X.prog X.w X.K X.mg X.base X.A x 1 (M1 fn)) (hg : Gl X x) (hdb : (x == ("__debug__" : Str)) = false) (sb : Stb W R) (n0 : NS a0) (h0 : EV X W R a0 f0) :
    EVf X W R (.Call (.Name x p) [a0] [] pos) (fun g => f0 g >>= fun x0 => MR.lift (fn x0)) := fun g s y s' r σ H hR hW Q q => by
  obtain ⟨z0, s1, e0, r⟩ := run_bind_some r
  obtain ⟨h, rfl⟩ := run_lift_some r
  refine call_run D hg hdb (by simp only [List.mem_cons, List.not_mem_nil, or_false]; rintro a rfl; assumption) (A_1 sb n0 h0) (ds := [enc z0]) (s1 := s1) (d := enc y) (by simp [MR.run_bind, MR.run_pure, e0]) rfl ⟨z0, rfl, y, h, rfl⟩ hR hW q
theorem E_callI1 [Imm ρ] {fn : τ0 → Option ρ} {x : Str} {f0 : γ → m τ0} (D : Dfn X.prog X.w X.K X.mg X.base X.A x 1 (M1 fn)) (hg : Gl X x) (hdb : (x == ("__debug__" : Str)) = false) (sb : Stb W R) (n0 : NS a0) (h0 : EV X W R a0 f0) :
    EV X W R (.Call (.Name x p) [a0] [] pos) (fun g => f0 g >>= fun x0 => MR.lift (fn x0)) := EV.of_f (E_call1 D hg hdb sb n0 h0)
end

/-! 2 -/
def M2 {τ0 τ1 ρ : Type} [Py τ0] [Py τ1] [Py ρ] (f : τ0 → τ1 → Option ρ) : List PyData → PyData → Prop := fun ds d => ∃ x0 x1, ds = [enc x0, enc x1] ∧ ∃ r, f x0 x1 = some r ∧ d = enc r
section
variable {S : Type} {m : Type → Type} [Monad m] [MR m S] {γ τ0 τ1 ρ : Type} [Py τ0] [Py τ1] [Py ρ] {X : Cx} {W : Wd S} {R : γ → Sg → Hp → Prop} {a0 a1 : Expr} {pos p : Pos}
theorem A_2 {f0 : γ → m τ0} {f1 : γ → m τ1} (sb : Stb W R) (n0 : NS a0) (n1 : NS a1) (h0 : EV X W R a0 f0) (h1 : EV X W R a1 f1) : AVs X W R [a0, a1] (fun g => f0 g >>= fun x0 => f1 g >>= fun x1 => pure [enc x0, enc x1]) := by
  have h := A_cons sb n0 h0 (A_cons sb n1 h1 (A_nil (X := X) (W := W) (R := R) (m := m)))
  intro g s x s' r
  refine h g s x s' ?_
  simp only [MR.run_bind, MR.run_pure] at r ⊢
  rw [← r]
  simp [MR.run_bind, MR.run_pure, Option.bind_assoc, Function.comp_def]
theorem E_call2 {fn : τ0 → τ1 → Option ρ} {x : Str} {f0 : γ → m τ0} {f1 : γ → m τ1} (D : Dfn X.prog X.w X.K X.mg X.base X.A x 2 (M2 fn)) (hg : Gl X x) (hdb : (x == ("__debug__" : Str)) = false) (sb : Stb W R) (n0 : NS a0) (n1 : NS a1) (h0 : EV X W R a0 f0) (h1 : EV X W R a1 f1) :
    EVf X W R (.Call (.Name x p) [a0, a1] [] pos) (fun g => f0 g >>= fun x0 => f1 g >>= fun x1 => MR.lift (fn x0 x1)) := fun g s y s' r σ H hR hW Q q => by
  obtain ⟨z0, s1, e0, r⟩ := run_bind_some r
  obtain ⟨z1, s2, e1, r⟩ := run_bind_some r
  obtain ⟨h, rfl⟩ := run_lift_some r
  refine call_run D hg hdb (by simp only [List.mem_cons, List.not_mem_nil, or_false]; rintro a (rfl | rfl) <;> assumption) (A_2 sb n0 n1 h0 h1) (ds := [enc z0, enc z1]) (s1 := s2) (d := enc y) (by simp [MR.run_bind, MR.run_pure, e0, e1]) rfl ⟨z0, z1, rfl, y, h, rfl⟩ hR hW q
theorem E_callI2 [Imm ρ] {fn : τ0 → τ1 → Option ρ} {x : Str} {f0 : γ → m τ0} {f1 : γ → m τ1} (D : Dfn X.prog X.w X.K X.mg X.base X.A x 2 (M2 fn)) (hg : Gl X x) (hdb : (x == ("__debug__" : Str)) = false) (sb : Stb W R) (n0 : NS a0) (n1 : NS a1) (h0 : EV X W R a0 f0) (h1 : EV X W R a1 f1) :
    EV X W R (.Call (.Name x p) [a0, a1] [] pos) (fun g => f0 g >>= fun x0 => f1 g >>= fun x1 => MR.lift (fn x0 x1)) := EV.of_f (E_call2 D hg hdb sb n0 n1 h0 h1)
end

/-! 3 -/
def M3 {τ0 τ1 τ2 ρ : Type} [Py τ0] [Py τ1] [Py τ2] [Py ρ] (f : τ0 → τ1 → τ2 → Option ρ) : List PyData → PyData → Prop := fun ds d => ∃ x0 x1 x2, ds = [enc x0, enc x1, enc x2] ∧ ∃ r, f x0 x1 x2 = some r ∧ d = enc r
section
variable {S : Type} {m : Type → Type} [Monad m] [MR m S] {γ τ0 τ1 τ2 ρ : Type} [Py τ0] [Py τ1] [Py τ2] [Py ρ] {X : Cx} {W : Wd S} {R : γ → Sg → Hp → Prop} {a0 a1 a2 : Expr} {pos p : Pos}
theorem A_3 {f0 : γ → m τ0} {f1 : γ → m τ1} {f2 : γ → m τ2} (sb : Stb W R) (n0 : NS a0) (n1 : NS a1) (n2 : NS a2) (h0 : EV X W R a0 f0) (h1 : EV X W R a1 f1) (h2 : EV X W R a2 f2) : AVs X W R [a0, a1, a2] (fun g => f0 g >>= fun x0 => f1 g >>= fun x1 => f2 g >>= fun x2 => pure [enc x0, enc x1, enc x2]) := by
  have h := A_cons sb n0 h0 (A_cons sb n1 h1 (A_cons sb n2 h2 (A_nil (X := X) (W := W) (R := R) (m := m))))
  intro g s x s' r
  refine h g s x s' ?_
  simp only [MR.run_bind, MR.run_pure] at r ⊢
  rw [← r]
  simp [MR.run_bind, MR.run_pure, Option.bind_assoc, Function.comp_def]
theorem E_call3 {fn : τ0 → τ1 → τ2 → Option ρ} {x : Str} {f0 : γ → m τ0} {f1 : γ → m τ1} {f2 : γ → m τ2} (D : Dfn X.prog X.w X.K X.mg X.base X.A x 3 (M3 fn)) (hg : Gl X x) (hdb : (x == ("__debug__" : Str)) = false) (sb : Stb W R) (n0 : NS a0) (n1 : NS a1) (n2 : NS a2) (h0 : EV X W R a0 f0) (h1 : EV X W R a1 f1) (h2 : EV X W R a2 f2) :
    EVf X W R (.Call (.Name x p) [a0, a1, a2] [] pos) (fun g => f0 g >>= fun x0 => f1 g >>= fun x1 => f2 g >>= fun x2 => MR.lift (fn x0 x1 x2)) := fun g s y s' r σ H hR hW Q q => by
  obtain ⟨z0, s1, e0, r⟩ := run_bind_some r
  obtain ⟨z1, s2, e1, r⟩ := run_bind_some r
  obtain ⟨z2, s3, e2, r⟩ := run_bind_some r
  obtain ⟨h, rfl⟩ := run_lift_some r
  refine call_run D hg hdb (by simp only [List.mem_cons, List.not_mem_nil, or_false]; rintro a (rfl | rfl | rfl) <;> assumption) (A_3 sb n0 n1 n2 h0 h1 h2) (ds := [enc z0, enc z1, enc z2]) (s1 := s3) (d := enc y) (by simp [MR.run_bind, MR.run_pure, e0, e1, e2]) rfl ⟨z0, z1, z2, rfl, y, h, rfl⟩ hR hW q
theorem E_callI3 [Imm ρ] {fn : τ0 → τ1 → τ2 → Option ρ} {x : Str} {f0 : γ → m τ0} {f1 : γ → m τ1} {f2 : γ → m τ2} (D : Dfn X.prog X.w X.K X.mg X.base X.A x 3 (M3 fn)) (hg : Gl X x) (hdb : (x == ("__debug__" : Str)) = false) (sb : Stb W R) (n0 : NS a0) (n1 : NS a1) (n2 : NS a2) (h0 : EV X W R a0 f0) (h1 : EV X W R a1 f1) (h2 : EV X W R a2 f2) :
    EV X W R (.Call (.Name x p) [a0, a1, a2] [] pos) (fun g => f0 g >>= fun x0 => f1 g >>= fun x1 => f2 g >>= fun x2 => MR.lift (fn x0 x1 x2)) := EV.of_f (E_call3 D hg hdb sb n0 n1 n2 h0 h1 h2)
end

/-! 4 -/
def M4 {τ0 τ1 τ2 τ3 ρ : Type} [Py τ0] [Py τ1] [Py τ2] [Py τ3] [Py ρ] (f : τ0 → τ1 → τ2 → τ3 → Option ρ) : List PyData → PyData → Prop := fun ds d => ∃ x0 x1 x2 x3, ds = [enc x0, enc x1, enc x2, enc x3] ∧ ∃ r, f x0 x1 x2 x3 = some r ∧ d = enc r
section
variable {S : Type} {m : Type → Type} [Monad m] [MR m S] {γ τ0 τ1 τ2 τ3 ρ : Type} [Py τ0] [Py τ1] [Py τ2] [Py τ3] [Py ρ] {X : Cx} {W : Wd S} {R : γ → Sg → Hp → Prop} {a0 a1 a2 a3 : Expr} {pos p : Pos}
theorem A_4 {f0 : γ → m τ0} {f1 : γ → m τ1} {f2 : γ → m τ2} {f3 : γ → m τ3} (sb : Stb W R) (n0 : NS a0) (n1 : NS a1) (n2 : NS a2) (n3 : NS a3) (h0 : EV X W R a0 f0) (h1 : EV X W R a1 f1) (h2 : EV X W R a2 f2) (h3 : EV X W R a3 f3) : AVs X W R [a0, a1, a2, a3] (fun g => f0 g >>= fun x0 => f1 g >>= fun x1 => f2 g >>= fun x2 => f3 g >>= fun x3 => pure [enc x0, enc x1, enc x2, enc x3]) := by
  have h := A_cons sb n0 h0 (A_cons sb n1 h1 (A_cons sb n2 h2 (A_cons sb n3 h3 (A_nil (X := X) (W := W) (R := R) (m := m)))))
  intro g s x s' r
  refine h g s x s' ?_
  simp only [MR.run_bind, MR.run_pure] at r ⊢
  rw [← r]
  simp [MR.run_bind, MR.run_pure, Option.bind_assoc, Function.comp_def]
theorem E_call4 {fn : τ0 → τ1 → τ2 → τ3 → Option ρ} {x : Str} {f0 : γ → m τ0} {f1 : γ → m τ1} {f2 : γ → m τ2} {f3 : γ → m τ3} (D : Dfn X.prog X.w X.K X.mg X.base X.A x 4 (M4 fn)) (hg : Gl X x) (hdb : (x == ("__debug__" : Str)) = false) (sb : Stb W R) (n0 : NS a0) (n1 : NS a1) (n2 : NS a2) (n3 : NS a3) (h0 : EV X W R a0 f0) (h1 : EV X W R a1 f1) (h2 : EV X W R a2 f2) (h3 : EV X W R a3 f3) :
    EVf X W R (.Call (.Name x p) [a0, a1, a2, a3] [] pos) (fun g => f0 g >>= fun x0 => f1 g >>= fun x1 => f2 g >>= fun x2 => f3 g >>= fun x3 => MR.lift (fn x0 x1 x2 x3)) := fun g s y s' r σ H hR hW Q q => by
  obtain ⟨z0, s1, e0, r⟩ := run_bind_some r
  obtain ⟨z1, s2, e1, r⟩ := run_bind_some r
  obtain ⟨z2, s3, e2, r⟩ := run_bind_some r
  obtain ⟨z3, s4, e3, r⟩ := run_bind_some r
  obtain ⟨h, rfl⟩ := run_lift_some r
  refine call_run D hg hdb (by simp only [List.mem_cons, List.not_mem_nil, or_false]; rintro a (rfl | rfl | rfl | rfl) <;> assumption) (A_4 sb n0 n1 n2 n3 h0 h1 h2 h3) (ds := [enc z0, enc z1, enc z2, enc z3]) (s1 := s4) (d := enc y) (by simp [MR.run_bind, MR.run_pure, e0, e1, e2, e3]) rfl ⟨z0, z1, z2, z3, rfl, y, h, rfl⟩ hR hW q
theorem E_callI4 [Imm ρ] {fn : τ0 → τ1 → τ2 → τ3 → Option ρ} {x : Str} {f0 : γ → m τ0} {f1 : γ → m τ1} {f2 : γ → m τ2} {f3 : γ → m τ3} (D : Dfn X.prog X.w X.K X.mg X.base X.A x 4 (M4 fn)) (hg : Gl X x) (hdb : (x == ("__debug__" : Str)) = false) (sb : Stb W R) (n0 : NS a0) (n1 : NS a1) (n2 : NS a2) (n3 : NS a3) (h0 : EV X W R a0 f0) (h1 : EV X W R a1 f1) (h2 : EV X W R a2 f2) (h3 : EV X W R a3 f3) :
    EV X W R (.Call (.Name x p) [a0, a1, a2, a3] [] pos) (fun g => f0 g >>= fun x0 => f1 g >>= fun x1 => f2 g >>= fun x2 => f3 g >>= fun x3 => MR.lift (fn x0 x1 x2 x3)) := EV.of_f (E_call4 D hg hdb sb n0 n1 n2 n3 h0 h1 h2 h3)
end

/-! 5 -/
def M5 {τ0 τ1 τ2 τ3 τ4 ρ : Type} [Py τ0] [Py τ1] [Py τ2] [Py τ3] [Py τ4] [Py ρ] (f : τ0 → τ1 → τ2 → τ3 → τ4 → Option ρ) : List PyData → PyData → Prop := fun ds d => ∃ x0 x1 x2 x3 x4, ds = [enc x0, enc x1, enc x2, enc x3, enc x4] ∧ ∃ r, f x0 x1 x2 x3 x4 = some r ∧ d = enc r
section
variable {S : Type} {m : Type → Type} [Monad m] [MR m S] {γ τ0 τ1 τ2 τ3 τ4 ρ : Type} [Py τ0] [Py τ1] [Py τ2] [Py τ3] [Py τ4] [Py ρ] {X : Cx} {W : Wd S} {R : γ → Sg → Hp → Prop} {a0 a1 a2 a3 a4 : Expr} {pos p : Pos}
theorem A_5 {f0 : γ → m τ0} {f1 : γ → m τ1} {f2 : γ → m τ2} {f3 : γ → m τ3} {f4 : γ → m τ4} (sb : Stb W R) (n0 : NS a0) (n1 : NS a1) (n2 : NS a2) (n3 : NS a3) (n4 : NS a4) (h0 : EV X W R a0 f0) (h1 : EV X W R a1 f1) (h2 : EV X W R a2 f2) (h3 : EV X W R a3 f3) (h4 : EV X W R a4 f4) : AVs X W R [a0, a1, a2, a3, a4] (fun g => f0 g >>= fun x0 => f1 g >>= fun x1 => f2 g >>= fun x2 => f3 g >>= fun x3 => f4 g >>= fun x4 => pure [enc x0, enc x1, enc x2, enc x3, enc x4]) := by
  have h := A_cons sb n0 h0 (A_cons sb n1 h1 (A_cons sb n2 h2 (A_cons sb n3 h3 (A_cons sb n4 h4 (A_nil (X := X) (W := W) (R := R) (m := m))))))
  intro g s x s' r
  refine h g s x s' ?_
  simp only [MR.run_bind, MR.run_pure] at r ⊢
  rw [← r]
  simp [MR.run_bind, MR.run_pure, Option.bind_assoc, Function.comp_def]
theorem E_call5 {fn : τ0 → τ1 → τ2 → τ3 → τ4 → Option ρ} {x : Str} {f0 : γ → m τ0} {f1 : γ → m τ1} {f2 : γ → m τ2} {f3 : γ → m τ3} {f4 : γ → m τ4} (D : Dfn X.prog X.w X.K X.mg X.base X.A x 5 (M5 fn)) (hg : Gl X x) (hdb : (x == ("__debug__" : Str)) = false) (sb : Stb W R) (n0 : NS a0) (n1 : NS a1) (n2 : NS a2) (n3 : NS a3) (n4 : NS a4) (h0 : EV X W R a0 f0) (h1 : EV X W R a1 f1) (h2 : EV X W R a2 f2) (h3 : EV X W R a3 f3) (h4 : EV X W R a4 f4) :
    EVf X W R (.Call (.Name x p) [a0, a1, a2, a3, a4] [] pos) (fun g => f0 g >>= fun x0 => f1 g >>= fun x1 => f2 g >>= fun x2 => f3 g >>= fun x3 => f4 g >>= fun x4 => MR.lift (fn x0 x1 x2 x3 x4)) := fun g s y s' r σ H hR hW Q q => by
  obtain ⟨z0, s1, e0, r⟩ := run_bind_some r
  obtain ⟨z1, s2, e1, r⟩ := run_bind_some r
  obtain ⟨z2, s3, e2, r⟩ := run_bind_some r
  obtain ⟨z3, s4, e3, r⟩ := run_bind_some r
  obtain ⟨z4, s5, e4, r⟩ := run_bind_some r
  obtain ⟨h, rfl⟩ := run_lift_some r
  refine call_run D hg hdb (by simp only [List.mem_cons, List.not_mem_nil, or_false]; rintro a (rfl | rfl | rfl | rfl | rfl) <;> assumption) (A_5 sb n0 n1 n2 n3 n4 h0 h1 h2 h3 h4) (ds := [enc z0, enc z1, enc z2, enc z3, enc z4]) (s1 := s5) (d := enc y) (by simp [MR.run_bind, MR.run_pure, e0, e1, e2, e3, e4]) rfl ⟨z0, z1, z2, z3, z4, rfl, y, h, rfl⟩ hR hW q
theorem E_callI5 [Imm ρ] {fn : τ0 → τ1 → τ2 → τ3 → τ4 → Option ρ} {x : Str} {f0 : γ → m τ0} {f1 : γ → m τ1} {f2 : γ → m τ2} {f3 : γ → m τ3} {f4 : γ → m τ4} (D : Dfn X.prog X.w X.K X.mg X.base X.A x 5 (M5 fn)) (hg : Gl X x) (hdb : (x == ("__debug__" : Str)) = false) (sb : Stb W R) (n0 : NS a0) (n1 : NS a1) (n2 : NS a2) (n3 : NS a3) (n4 : NS a4) (h0 : EV X W R a0 f0) (h1 : EV X W R a1 f1) (h2 : EV X W R a2 f2) (h3 : EV X W R a3 f3) (h4 : EV X W R a4 f4) :
    EV X W R (.Call (.Name x p) [a0, a1, a2, a3, a4] [] pos) (fun g => f0 g >>= fun x0 => f1 g >>= fun x1 => f2 g >>= fun x2 => f3 g >>= fun x3 => f4 g >>= fun x4 => MR.lift (fn x0 x1 x2 x3 x4)) := EV.of_f (E_call5 D hg hdb sb n0 n1 n2 n3 n4 h0 h1 h2 h3 h4)
end

/-! 6 -/
def M6 {τ0 τ1 τ2 τ3 τ4 τ5 ρ : Type} [Py τ0] [Py τ1] [Py τ2] [Py τ3] [Py τ4] [Py τ5] [Py ρ] (f : τ0 → τ1 → τ2 → τ3 → τ4 → τ5 → Option ρ) : List PyData → PyData → Prop := fun ds d => ∃ x0 x1 x2 x3 x4 x5, ds = [enc x0, enc x1, enc x2, enc x3, enc x4, enc x5] ∧ ∃ r, f x0 x1 x2 x3 x4 x5 = some r ∧ d = enc r
section
variable {S : Type} {m : Type → Type} [Monad m] [MR m S] {γ τ0 τ1 τ2 τ3 τ4 τ5 ρ : Type} [Py τ0] [Py τ1] [Py τ2] [Py τ3] [Py τ4] [Py τ5] [Py ρ] {X : Cx} {W : Wd S} {R : γ → Sg → Hp → Prop} {a0 a1 a2 a3 a4 a5 : Expr} {pos p : Pos}
theorem A_6 {f0 : γ → m τ0} {f1 : γ → m τ1} {f2 : γ → m τ2} {f3 : γ → m τ3} {f4 : γ → m τ4} {f5 : γ → m τ5} (sb : Stb W R) (n0 : NS a0) (n1 : NS a1) (n2 : NS a2) (n3 : NS a3) (n4 : NS a4) (n5 : NS a5) (h0 : EV X W R a0 f0) (h1 : EV X W R a1 f1) (h2 : EV X W R a2 f2) (h3 : EV X W R a3 f3) (h4 : EV X W R a4 f4) (h5 : EV X W R a5 f5) : AVs X W R [a0, a1, a2, a3, a4, a5] (fun g => f0 g >>= fun x0 => f1 g >>= fun x1 => f2 g >>= fun x2 => f3 g >>= fun x3 => f4 g >>= fun x4 => f5 g >>= fun x5 => pure [enc x0, enc x1, enc x2, enc x3, enc x4, enc x5]) := by
  have h := A_cons sb n0 h0 (A_cons sb n1 h1 (A_cons sb n2 h2 (A_cons sb n3 h3 (A_cons sb n4 h4 (A_cons sb n5 h5 (A_nil (X := X) (W := W) (R := R) (m := m)))))))
  intro g s x s' r
  refine h g s x s' ?_
  simp only [MR.run_bind, MR.run_pure] at r ⊢
  rw [← r]
  simp [MR.run_bind, MR.run_pure, Option.bind_assoc, Function.comp_def]
theorem E_call6 {fn : τ0 → τ1 → τ2 → τ3 → τ4 → τ5 → Option ρ} {x : Str} {f0 : γ → m τ0} {f1 : γ → m τ1} {f2 : γ → m τ2} {f3 : γ → m τ3} {f4 : γ → m τ4} {f5 : γ → m τ5} (D : Dfn X.prog X.w X.K X.mg X.base X.A x 6 (M6 fn)) (hg : Gl X x) (hdb : (x == ("__debug__" : Str)) = false) (sb : Stb W R) (n0 : NS a0) (n1 : NS a1) (n2 : NS a2) (n3 : NS a3) (n4 : NS a4) (n5 : NS a5) (h0 : EV X W R a0 f0) (h1 : EV X W R a1 f1) (h2 : EV X W R a2 f2) (h3 : EV X W R a3 f3) (h4 : EV X W R a4 f4) (h5 : EV X W R a5 f5) :
    EVf X W R (.Call (.Name x p) [a0, a1, a2, a3, a4, a5] [] pos) (fun g => f0 g >>= fun x0 => f1 g >>= fun x1 => f2 g >>= fun x2 => f3 g >>= fun x3 => f4 g >>= fun x4 => f5 g >>= fun x5 => MR.lift (fn x0 x1 x2 x3 x4 x5)) := fun g s y s' r σ H hR hW Q q => by
  obtain ⟨z0, s1, e0, r⟩ := run_bind_some r
  obtain ⟨z1, s2, e1, r⟩ := run_bind_some r
  obtain ⟨z2, s3, e2, r⟩ := run_bind_some r
  obtain ⟨z3, s4, e3, r⟩ := run_bind_some r
  obtain ⟨z4, s5, e4, r⟩ := run_bind_some r
  obtain ⟨z5, s6, e5, r⟩ := run_bind_some r
  obtain ⟨h, rfl⟩ := run_lift_some r
  refine call_run D hg hdb (by simp only [List.mem_cons, List.not_mem_nil, or_false]; rintro a (rfl | rfl | rfl | rfl | rfl | rfl) <;> assumption) (A_6 sb n0 n1 n2 n3 n4 n5 h0 h1 h2 h3 h4 h5) (ds := [enc z0, enc z1, enc z2, enc z3, enc z4, enc z5]) (s1 := s6) (d := enc y) (by simp [MR.run_bind, MR.run_pure, e0, e1, e2, e3, e4, e5]) rfl ⟨z0, z1, z2, z3, z4, z5, rfl, y, h, rfl⟩ hR hW q
theorem E_callI6 [Imm ρ] {fn : τ0 → τ1 → τ2 → τ3 → τ4 → τ5 → Option ρ} {x : Str} {f0 : γ → m τ0} {f1 : γ → m τ1} {f2 : γ → m τ2} {f3 : γ → m τ3} {f4 : γ → m τ4} {f5 : γ → m τ5} (D : Dfn X.prog X.w X.K X.mg X.base X.A x 6 (M6 fn)) (hg : Gl X x) (hdb : (x == ("__debug__" : Str)) = false) (sb : Stb W R) (n0 : NS a0) (n1 : NS a1) (n2 : NS a2) (n3 : NS a3) (n4 : NS a4) (n5 : NS a5) (h0 : EV X W R a0 f0) (h1 : EV X W R a1 f1) (h2 : EV X W R a2 f2) (h3 : EV X W R a3 f3) (h4 : EV X W R a4 f4) (h5 : EV X W R a5 f5) :
    EV X W R (.Call (.Name x p) [a0, a1, a2, a3, a4, a5] [] pos) (fun g => f0 g >>= fun x0 => f1 g >>= fun x1 => f2 g >>= fun x2 => f3 g >>= fun x3 => f4 g >>= fun x4 => f5 g >>= fun x5 => MR.lift (fn x0 x1 x2 x3 x4 x5)) := EV.of_f (E_call6 D hg hdb sb n0 n1 n2 n3 n4 n5 h0 h1 h2 h3 h4 h5)
end

section
variable {S : Type} {m : Type → Type} [Monad m] [MR m S] {γ α β δ ε ρ : Type} [Py α] [Py β] [Py δ] [Py ε] [Py ρ] {X : Cx} {W : Wd S} {R : γ → Sg → Hp → Prop} {e a b c d : Expr} {es rest : List Expr} {pos p : Pos} {j : Nat}
def M0 (f : Option ρ) : List PyData → PyData → Prop := fun ds d => ds = [] ∧ ∃ r, f = some r ∧ d = enc r
theorem E_call0 {fn : Option ρ} {x : Str} (D : Dfn X.prog X.w X.K X.mg X.base X.A x 0 (M0 fn)) (hg : Gl X x) (hdb : (x == ("__debug__" : Str)) = false) : EVf X W R (.Call (.Name x p) [] [] pos) (fun _ => (MR.lift fn : m ρ)) := fun g s y s' r σ H hR hW Q q => by
  obtain ⟨h, rfl⟩ := run_lift_some r
  exact call_run0 D hg hdb (d := enc y) ⟨rfl, y, h, rfl⟩ hW q
/-! ### tuples, lists that are written -/
theorem tup_run {k : γ → m (List PyData)} (hA : AVs X W R es k) {g : γ} {s s1 : S} {ds : List PyData} (h1 : MR.run (k g) s = some (ds, s1)) (hl : ds.length ≤ 1000) {σ : Sg} {H : Hp} (hR : R g σ H) (hW : W.WI s H)
    {Q : VK} (q : ∀ v H', gr W.Av H H' → W.WI s1 H' → Rp X.K W.Av H' v (.tuple ds) → Q v H') : wE X (.Tuple es j pos) σ H Q := by
  refine wE.of (pe_tup (paW es)) (hA g s ds s1 h1 σ H hR hW _ fun vs H1 g1 w1 p1 => ?_)
  have hz : vs.length ≤ sizeLine := by rw [p1.length]; exact Nat.le_of_lt (small1000 hl)
  refine ⟨hz, fun p hp => q _ _ (g1.trans (.new hp)) (W.new w1 hp) (.tup hz (.of upd_same) (p1.mono (.new hp)))⟩
theorem E_tup2 {f0 : γ → m α} {f1 : γ → m β} (sb : Stb W R) (n0 : NS a) (n1 : NS b) (h0 : EV X W R a f0) (h1 : EV X W R b f1) : EV X W R (.Tuple [a, b] j pos) (fun g => f0 g >>= fun x => f1 g >>= fun y => pure (x, y)) := fun g s y s' r σ H hR hW Q q => by
  obtain ⟨z0, s1, e0, r⟩ := run_bind_some r
  obtain ⟨z1, s2, e1, r⟩ := run_bind_some r
  obtain ⟨rfl, rfl⟩ := run_pure_some r
  exact tup_run (A_2 sb n0 n1 h0 h1) (ds := [enc z0, enc z1]) (by simp [MR.run_bind, MR.run_pure, e0, e1]) (by simp) hR hW q
theorem E_tup3 {f0 : γ → m α} {f1 : γ → m β} {f2 : γ → m δ} (sb : Stb W R) (n0 : NS a) (n1 : NS b) (n2 : NS c) (h0 : EV X W R a f0) (h1 : EV X W R b f1) (h2 : EV X W R c f2) :
    EV X W R (.Tuple [a, b, c] j pos) (fun g => f0 g >>= fun x => f1 g >>= fun y => f2 g >>= fun z => pure (T3.mk x y z)) := fun g s y s' r σ H hR hW Q q => by
  obtain ⟨z0, s1, e0, r⟩ := run_bind_some r
  obtain ⟨z1, s2, e1, r⟩ := run_bind_some r
  obtain ⟨z2, s3, e2, r⟩ := run_bind_some r
  obtain ⟨rfl, rfl⟩ := run_pure_some r
  exact tup_run (A_3 sb n0 n1 n2 h0 h1 h2) (ds := [enc z0, enc z1, enc z2]) (by simp [MR.run_bind, MR.run_pure, e0, e1, e2]) (by simp) hR hW q
theorem E_tup4 {f0 : γ → m α} {f1 : γ → m β} {f2 : γ → m δ} {f3 : γ → m ε} (sb : Stb W R) (n0 : NS a) (n1 : NS b) (n2 : NS c) (n3 : NS d) (h0 : EV X W R a f0) (h1 : EV X W R b f1) (h2 : EV X W R c f2) (h3 : EV X W R d f3) :
    EV X W R (.Tuple [a, b, c, d] j pos) (fun g => f0 g >>= fun x => f1 g >>= fun y => f2 g >>= fun z => f3 g >>= fun u => pure (T4.mk x y z u)) := fun g s y s' r σ H hR hW Q q => by
  obtain ⟨z0, s1, e0, r⟩ := run_bind_some r
  obtain ⟨z1, s2, e1, r⟩ := run_bind_some r
  obtain ⟨z2, s3, e2, r⟩ := run_bind_some r
  obtain ⟨z3, s4, e3, r⟩ := run_bind_some r
  obtain ⟨rfl, rfl⟩ := run_pure_some r
  exact tup_run (A_4 sb n0 n1 n2 n3 h0 h1 h2 h3) (ds := [enc z0, enc z1, enc z2, enc z3]) (by simp [MR.run_bind, MR.run_pure, e0, e1, e2, e3]) (by simp) hR hW q
/-- written items of one kind -/
structure HV (X : Cx) (W : Wd S) (R : γ → Sg → Hp → Prop) (es : List Expr) (f : γ → m (List α)) : Prop where
  av : AVs X W R es (fun g => f g >>= fun xs => pure (xs.map enc))
  len : ∀ g s xs s', MR.run (f g) s = some (xs, s') → xs.length = es.length
theorem H_nil : HV X W R [] (fun _ => (pure [] : m (List α))) := ⟨fun g s x s' r => A_nil (m := m) g s x s' (by rw [← r]; simp [MR.run_bind, MR.run_pure]), fun g s xs s' r => by obtain ⟨rfl, rfl⟩ := run_pure_some r; rfl⟩
theorem H_cons {f : γ → m α} {k : γ → m (List α)} (sb : Stb W R) (n1 : NS e) (ha : EV X W R e f) (hr : HV X W R es k) : HV X W R (e :: es) (fun g => f g >>= fun x => k g >>= fun xs => pure (x :: xs)) :=
  ⟨fun g s x s' r => A_cons sb n1 ha hr.av g s x s' (by rw [← r]; simp [MR.run_bind, MR.run_pure, Option.bind_assoc, Function.comp_def]), fun g s xs s' r => by
    obtain ⟨z0, s1, e0, r⟩ := run_bind_some r
    obtain ⟨z1, s2, e1, r⟩ := run_bind_some r
    obtain ⟨rfl, rfl⟩ := run_pure_some r
    simp [hr.len g _ _ _ e1]⟩
theorem E_tupL {f : γ → m (List α)} (h : HV X W R es f) (hl : es.length ≤ 1000) : EV X W R (.Tuple es j pos) f := fun g s y s' r σ H hR hW Q q => by
  exact tup_run h.av (ds := y.map enc) (by simp [MR.run_bind, MR.run_pure, r]) (by rw [List.length_map, h.len g s y s' r]; exact hl) hR hW q
theorem E_lst {f : γ → m (List α)} [Imm α] (h : HV X W R es f) (hl : es.length ≤ 1000) : EVf X W R (.List es pos) (fun g => f g >>= fun xs => pure (Ls.mk xs)) := fun g s y s' r σ H hR hW Q q => by
  obtain ⟨z0, s1, e0, r⟩ := run_bind_some r
  obtain ⟨rfl, rfl⟩ := run_pure_some r
  refine wE.of (pe_lst (paW es)) (h.av g s (z0.map enc) s1 (by simp [MR.run_bind, MR.run_pure, e0]) σ H hR hW _ fun vs H1 g1 w1 p1 => ?_)
  have hz : vs.length ≤ sizeLine := by rw [p1.length, List.length_map, h.len g s _ _ e0]; exact Nat.le_of_lt (small1000 hl)
  refine ⟨hz, fun p hp => q _ _ (g1.trans (.new hp)) (W.new w1 hp) (.obj (fun z => g1.ex p z hp) (.lst hz upd_same (((p1.mono (.new hp))).any (immDs_map z0))))⟩
/-! ### subscripts -/
theorem E_fld (pr : α → β) (i : Nat) {z : Int} {f : γ → m α} {j : Nat} (ha : EV X W R a f) (hz : z = (i : Int) := by rfl) (hp : ∀ x : α, ∃ ds, enc x = PyData.tuple ds ∧ ds[i]? = some (enc (pr x)) := by intro x; exact ⟨_, rfl, rfl⟩) :
    EV X W R (.Subscript a (.Constant (.int z) j p) pos) (fun g => f g >>= fun x => pure (pr x)) := fun g s y s' r σ H hR hW Q q => by
  obtain ⟨z0, s1, e0, r⟩ := run_bind_some r
  obtain ⟨rfl, rfl⟩ := run_pure_some r
  subst hz
  refine wE.of (pe_ix ix_tup (peW a) (peW _) (fun _ _ => rfl)) (ha g s z0 _ e0 σ H hR hW _ fun v H1 g1 w1 p1 => wE.of pe_int ?_)
  obtain ⟨ds, e1, e2⟩ := hp z0
  rw [e1] at p1
  obtain ⟨t, xs, rfl, hz, hs, hx⟩ := p1.tup_inv
  obtain ⟨v, e3, p3⟩ := hx.get e2
  exact ⟨t, xs, (i : Int), v, rfl, rfl, hs, atI_nat e3, q _ _ g1 w1 p3⟩
theorem atI_all {K : PySem.W.Frag} {A : Addr → Prop} {H : Hp} {vs : List V} {xs : List α} (h : RpAll K A H vs (xs.map enc)) {i : Int} {x : α} (e : atI xs i = some x) : ∃ v, atI vs i = some v ∧ Rp K A H v (enc x) := by
  unfold atI at *
  have hl := h.length
  rw [List.length_map] at hl
  rw [hl]
  cases q : ixN xs.length i with
  | none => rw [q] at e; cases e
  | some j =>
    rw [q] at e
    have e : xs[j]? = some x := e
    exact h.get (by rw [List.getElem?_map, e]; rfl)
/-- t[i], t a tuple of any length -/
theorem E_ixT (sb : Stb W R) {f : γ → m (List α)} {k : γ → m Int} (ha : EV X W R a f) (hb : EV X W R b k) (hp : PlainIx b := by exact fun _ _ => rfl) :
    EV X W R (.Subscript a b pos) (fun g => f g >>= fun x => k g >>= fun i => MR.lift (atI x i)) := fun g s y s' r σ H hR hW Q q => by
  obtain ⟨z0, s1, e0, r⟩ := run_bind_some r
  obtain ⟨z1, s2, e1, r⟩ := run_bind_some r
  obtain ⟨h, rfl⟩ := run_lift_some r
  refine wE.of (pe_ix ix_tup (peW a) (peW _) hp) (EV.two sb ha hb e0 e1 hR hW fun v u H1 g1 w1 p1 p2 => ?_)
  obtain ⟨t, xs, rfl, hz, hs, hx⟩ := p1.tup_inv
  obtain ⟨v, e3, p3⟩ := atI_all hx h
  exact ⟨t, xs, _, v, rfl, p2.int_inv, hs, e3, q _ _ g1 w1 p3⟩
theorem E_ixL (sb : Stb W R) {f : γ → m (Ls α)} {k : γ → m Int} (ha : EV X W R a f) (hb : EV X W R b k) (hp : PlainIx b := by exact fun _ _ => rfl) :
    EV X W R (.Subscript a b pos) (fun g => f g >>= fun x => k g >>= fun i => MR.lift (atI x.l i)) := fun g s y s' r σ H hR hW Q q => by
  obtain ⟨z0, s1, e0, r⟩ := run_bind_some r
  obtain ⟨z1, s2, e1, r⟩ := run_bind_some r
  obtain ⟨h, rfl⟩ := run_lift_some r
  refine wE.of (pe_ix ix_list (peW a) (peW _) hp) (EV.two sb ha hb e0 e1 hR hW fun v u H1 g1 w1 p1 p2 => ?_)
  obtain ⟨t, xs, rfl, hn, hz, hs, hx⟩ := p1.lst_inv
  obtain ⟨v, e3, p3⟩ := atI_all hx h
  exact ⟨t, xs, _, v, rfl, p2.int_inv, .of hs, e3, q _ _ g1 w1 p3⟩
/-! ### built-ins -/
section
variable {x : Str}
theorem blt_run {id : String} {r : List V → Hp → VK → Prop} (hc : CallR X (.builtin id) r) (hg : Gl X x) (hm : X.mg x = none) (hv : bootBuiltins x = some (.builtin id)) (ns : ∀ a ∈ e :: es, NS a) (hn : x ≠ "__name__") (hdb : (x == ("__debug__" : Str)) = false)
    {σ : Sg} {H : Hp} {Q : VK} (h : wA X (e :: es) σ H fun vs H1 => r vs H1 Q) : wE X (.Call (.Name x p) (e :: es) [] pos) σ H Q :=
  wE.of (pe_callB hc hg hm hv (paW _) hn hdb (ns e List.mem_cons_self _ _) (by rw [backTo_any]; exact NSs_any (fun a ha => ns a (List.mem_cons_of_mem _ ha)) _)) h
theorem ty_run {T : String} {r : List V → Hp → VK → Prop} (hc : CallR X (.type T) r) (hg : Gl X x) (hm : X.mg x = none) (hv : bootBuiltins x = some (.type T)) (ns : ∀ a ∈ e :: es, NS a) (hn : x ≠ "__name__") (hdb : (x == ("__debug__" : Str)) = false)
    {σ : Sg} {H : Hp} {Q : VK} (h : wA X (e :: es) σ H fun vs H1 => r vs H1 Q) : wE X (.Call (.Name x p) (e :: es) [] pos) σ H Q :=
  wE.of (pe_callTy hc hg hm hv (paW _) hn hdb (ns e List.mem_cons_self _ _) (by rw [backTo_any]; exact NSs_any (fun a ha => ns a (List.mem_cons_of_mem _ ha)) _)) h
theorem ns1 (n : NS a) : ∀ b ∈ [a], NS b := by
  simp only [List.mem_cons, List.not_mem_nil, or_false]; rintro b rfl; exact n
theorem ns2 (n : NS a) (k : NS b) : ∀ c ∈ [a, b], NS c := by
  simp only [List.mem_cons, List.not_mem_nil, or_false]; rintro c (rfl | rfl) <;> assumption
/-- one argument -/
theorem A1_run {f : γ → m α} (sb : Stb W R) (n : NS a) (h : EV X W R a f) {g : γ} {s s1 : S} {z : α} (e0 : MR.run (f g) s = some (z, s1)) {σ : Sg} {H : Hp} (hR : R g σ H) (hW : W.WI s H) {Q : List V → Hp → Prop}
    (q : ∀ v H', gr W.Av H H' → W.WI s1 H' → Rp X.K W.Av H' v (enc z) → Q [v] H') : wA X [a] σ H Q :=
  wA.of (pa_cons (peW a) pa_nil (n _ _)) (h g s z s1 e0 σ H hR hW _ fun v H1 g1 w1 p1 => q v H1 g1 w1 p1)
theorem A1f_run {f : γ → m α} (n : NS a) (h : EVf X W R a f) {g : γ} {s s1 : S} {z : α} (e0 : MR.run (f g) s = some (z, s1)) {σ : Sg} {H : Hp} (hR : R g σ H) (hW : W.WI s H) {Q : List V → Hp → Prop}
    (q : ∀ v H', gr W.Av H H' → W.WI s1 H' → Rp X.K (fun a => H a ≠ none) H' v (enc z) → Q [v] H') : wA X [a] σ H Q :=
  wA.of (pa_cons (peW a) pa_nil (n _ _)) (h g s z s1 e0 σ H hR hW _ fun v H1 g1 w1 p1 => q v H1 g1 w1 p1)
theorem A2_run {f : γ → m α} {k : γ → m β} (sb : Stb W R) (n : NS a) (n' : NS b) (h : EV X W R a f) (h' : EV X W R b k) {g : γ} {s s1 s2 : S} {z : α} {y : β} (e0 : MR.run (f g) s = some (z, s1)) (e1 : MR.run (k g) s1 = some (y, s2))
    {σ : Sg} {H : Hp} (hR : R g σ H) (hW : W.WI s H) {Q : List V → Hp → Prop} (q : ∀ v u H', gr W.Av H H' → W.WI s2 H' → Rp X.K W.Av H' v (enc z) → Rp X.K W.Av H' u (enc y) → Q [v, u] H') : wA X [a, b] σ H Q :=
  wA.of (pa_cons (peW a) (pa_cons (peW b) pa_nil (n' _ _)) (n _ _)) (EV.two sb h h' e0 e1 hR hW fun v u H1 g1 w1 p1 p2 => q v u H1 g1 w1 p1 p2)
theorem E_lenT {f : γ → m (List α)} (hm : X.mg "len" = none) (hg : Gl X "len") (sb : Stb W R) (n : NS a) (h : EV X W R a f) : EV X W R (.Call (.Name "len" p) [a] [] pos) (fun g => f g >>= fun x => pure (x.length : Int)) := fun g s y s' r σ H hR hW Q q => by
  obtain ⟨z0, s1, e0, r⟩ := run_bind_some r
  obtain ⟨rfl, rfl⟩ := run_pure_some r
  refine blt_run call_len_seq hg hm PySem.boot_len (ns1 n) (by decide) (by decide) (A1_run sb n h e0 hR hW fun v H1 g1 w1 p1 => ?_)
  obtain ⟨t, xs, rfl, hz, hs, hx⟩ := p1.tup_inv
  exact ⟨t, xs, rfl, .inr hs, by rw [hx.length, List.length_map]; exact q _ _ g1 w1 (.int _)⟩
theorem E_lenL {f : γ → m (Ls α)} (hm : X.mg "len" = none) (hg : Gl X "len") (sb : Stb W R) (n : NS a) (h : EV X W R a f) : EV X W R (.Call (.Name "len" p) [a] [] pos) (fun g => f g >>= fun x => pure (x.l.length : Int)) := fun g s y s' r σ H hR hW Q q => by
  obtain ⟨z0, s1, e0, r⟩ := run_bind_some r
  obtain ⟨rfl, rfl⟩ := run_pure_some r
  refine blt_run call_len_seq hg hm PySem.boot_len (ns1 n) (by decide) (by decide) (A1_run sb n h e0 hR hW fun v H1 g1 w1 p1 => ?_)
  obtain ⟨t, xs, rfl, hn, hz, hs, hx⟩ := p1.lst_inv
  exact ⟨t, xs, rfl, .inl (.of hs), by rw [hx.length, List.length_map]; exact q _ _ g1 w1 (.int _)⟩
def absI (i : Int) : Int := if i < 0 then -i else i
theorem E_abs {f : γ → m Int} (hm : X.mg "abs" = none) (hg : Gl X "abs") (hc : X.calm = true) (sb : Stb W R) (n : NS a) (h : EV X W R a f) : EV X W R (.Call (.Name "abs" p) [a] [] pos) (fun g => f g >>= fun x => pure (absI x)) := fun g s y s' r σ H hR hW Q q => by
  obtain ⟨z0, s1, e0, r⟩ := run_bind_some r
  obtain ⟨rfl, rfl⟩ := run_pure_some r
  refine blt_run call_abs hg hm (by decide +kernel) (ns1 n) (by decide) (by decide) (A1_run sb n h e0 hR hW fun v H1 g1 w1 p1 => ?_)
  exact ⟨z0, by rw [p1.int_inv], q _ _ g1 w1 (.int _)⟩
/-- tuple(list) -/
theorem E_tupleL {f : γ → m (Ls α)} [Imm α] (hm : X.mg "tuple" = none) (hg : Gl X "tuple") (sb : Stb W R) (n : NS a) (h : EV X W R a f) : EV X W R (.Call (.Name "tuple" p) [a] [] pos) (fun g => f g >>= fun x => pure x.l) := fun g s y s' r σ H hR hW Q q => by
  obtain ⟨z0, s1, e0, r⟩ := run_bind_some r
  obtain ⟨rfl, rfl⟩ := run_pure_some r
  refine ty_run call_tuple_of hg hm (by decide +kernel) (ns1 n) (by decide) (by decide) (A1_run sb n h e0 hR hW fun v H1 g1 w1 p1 => ?_)
  obtain ⟨t, xs, rfl, hn, hz, hs, hx⟩ := p1.lst_inv
  exact ⟨t, xs, rfl, .inl ⟨.of hs, fun l hl => q _ _ (g1.trans (.new hl)) (W.new w1 hl) (.tup hz (.of upd_same) (hx.mono (.new hl)))⟩⟩
theorem E_tupleT {f : γ → m (List α)} (hm : X.mg "tuple" = none) (hg : Gl X "tuple") (sb : Stb W R) (n : NS a) (h : EV X W R a f) : EV X W R (.Call (.Name "tuple" p) [a] [] pos) f := fun g s y s' r σ H hR hW Q q => by
  refine ty_run call_tuple_of hg hm (by decide +kernel) (ns1 n) (by decide) (by decide) (A1_run sb n h r hR hW fun v H1 g1 w1 p1 => ?_)
  obtain ⟨t, xs, rfl, hz, hs, hx⟩ := p1.tup_inv
  exact ⟨t, xs, rfl, .inr ⟨hs, q _ _ g1 w1 p1⟩⟩
/-- list(tuple), list(list) -/
theorem E_listT {f : γ → m (List α)} [Imm α] (hm : X.mg "list" = none) (hg : Gl X "list") (sb : Stb W R) (n : NS a) (h : EV X W R a f) : EVf X W R (.Call (.Name "list" p) [a] [] pos) (fun g => f g >>= fun x => pure (Ls.mk x)) := fun g s y s' r σ H hR hW Q q => by
  obtain ⟨z0, s1, e0, r⟩ := run_bind_some r
  obtain ⟨rfl, rfl⟩ := run_pure_some r
  refine ty_run call_list_of hg hm (by decide +kernel) (ns1 n) (by decide) (by decide) (A1_run sb n h e0 hR hW fun v H1 g1 w1 p1 => ?_)
  obtain ⟨t, xs, rfl, hz, hs, hx⟩ := p1.tup_inv
  exact ⟨t, xs, rfl, .inr hs, fun l hl => q _ _ (g1.trans (.new hl)) (W.new w1 hl) (.obj (fun z => g1.ex l z hl) (.lst hz upd_same ((hx.mono (.new hl)).any (immDs_map z0))))⟩
theorem E_listL {f : γ → m (Ls α)} [Imm α] (hm : X.mg "list" = none) (hg : Gl X "list") (sb : Stb W R) (n : NS a) (h : EV X W R a f) : EVf X W R (.Call (.Name "list" p) [a] [] pos) f := fun g s y s' r σ H hR hW Q q => by
  refine ty_run call_list_of hg hm (by decide +kernel) (ns1 n) (by decide) (by decide) (A1_run sb n h r hR hW fun v H1 g1 w1 p1 => ?_)
  obtain ⟨t, xs, rfl, hn, hz, hs, hx⟩ := p1.lst_inv
  exact ⟨t, xs, rfl, .inl (.of hs), fun l hl => q _ _ (g1.trans (.new hl)) (W.new w1 hl) (.obj (fun z => g1.ex l z hl) (.lst hz upd_same ((hx.mono (.new hl)).any (immDs_map y.l))))⟩
end
end
end TC

namespace TC
open PySem PySem.Spec PyProof.Rows L2
open Py (enc)

/-! ### how a block changes the heap -/
structure Tr (Av O : Addr → Prop) (H : Hp) (O1 : Addr → Prop) (H1 : Hp) : Prop where
  g : gr (fun a => Av a ∨ O a) H H1
  own : ∀ a, O1 a → O a ∨ H a = none
theorem Tr.refl {Av O : Addr → Prop} {H : Hp} : Tr Av O H O H := ⟨.refl _ _, fun _ h => .inl h⟩
theorem Tr.trans {Av O O1 O2 : Addr → Prop} {H H1 H2 : Hp} (a : Tr Av O H O1 H1) (b : Tr Av O1 H1 O2 H2) : Tr Av O H O2 H2 where
  g := by
    refine ⟨fun c o e i => b.g.kp c o (a.g.kp c o e i) fun z => ?_, fun c h => b.g.ex c (a.g.ex c h)⟩
    rcases z with z | z
    · exact i (.inl z)
    · rcases a.own c z with z | z
      · exact i (.inr z)
      · rw [z] at e; cases e
  own := fun c z => by
    rcases b.own c z with z | z
    · exact a.own c z
    · right
      cases q : H c with
      | none => rfl
      | some o => exact absurd z (a.g.ex c (by rw [q]; simp))
theorem Tr.of_gr {Av O : Addr → Prop} {H H1 : Hp} (g : gr Av H H1) : Tr Av O H O H1 := ⟨g.mono fun _ z => .inl z, fun _ z => .inl z⟩

/-! ### slots that change -/
section
variable {K : PySem.W.Frag} {Av : Addr → Prop} {H0 H H' : Hp} {γ δ : Type} {ss : List (SK γ)} {g : γ} {σ : Sg}
theorem cm_get {π : δ → γ} {i : Nat} {k : SK δ} (h : (ss.map (SK.cm π))[i]? = some k) : ∃ k', ss[i]? = some k' ∧ k = k'.cm π := by
  rw [List.getElem?_map] at h
  cases q : ss[i]? with
  | none => rw [q] at h; cases h
  | some k' => rw [q] at h; cases h; exact ⟨k', rfl, rfl⟩
theorem Own.cm {π : δ → γ} {a : Addr} (h : Own (ss.map (SK.cm π)) σ a) : Own ss σ a := by
  obtain ⟨i, d, h1, h2⟩ := h
  obtain ⟨k', e1, e2⟩ := cm_get h1
  cases k' with
  | u => cases e2
  | k _ => cases e2
  | v _ => cases e2
  | o d' => exact ⟨i, d', e1, h2⟩
theorem Rr.cm (r : Rr K Av H0 ss g σ H) (π : δ → γ) {g' : δ} (e : π g' = g) : Rr K Av H0 (ss.map (SK.cm π)) g' σ H := by
  subst e
  refine ⟨r.base, by rw [List.length_map]; exact r.len, fun i k o h1 h2 => ?_, fun i j d e a h1 h2 h3 h4 => ?_⟩
  · obtain ⟨k', e1, rfl⟩ := cm_get h1
    have h := r.slot i k' o e1 h2
    have sub : ∀ a, (Av a ∨ Own (ss.map (SK.cm π)) σ a) → (Av a ∨ Own ss σ a) := fun a z => z.imp id Own.cm
    cases k' with
    | u => trivial
    | k w => exact h
    | v d =>
      obtain ⟨v, e, p⟩ := h
      exact ⟨v, e, p.weak sub⟩
    | o d =>
      obtain ⟨a, e, p, q⟩ := h
      exact ⟨a, e, p.chg fun b z _ => sub b z, q⟩
  · obtain ⟨k1, e1, q1⟩ := cm_get h1
    obtain ⟨k2, e2, q2⟩ := cm_get h2
    cases k1 <;> cases q1
    cases k2 <;> cases q2
    exact r.one i j _ _ a e1 e2 h3 h4
/-- a slot forgotten -/
theorem Rr.setv (r : Rr K Av H0 ss g σ H) (i : Nat) (d : γ → PyData) {v : V} (p : Rp K (fun a => Av a ∨ Own ss σ a) H v (d g)) : Rr K Av H0 (ss.set i (.v d)) g (σ.set i (some v)) H := by
  have own : ∀ a, Own (ss.set i (.v d)) (σ.set i (some v)) a → Own ss σ a := fun a ⟨j, e, h1, h2⟩ => by
    by_cases hj : i = j
    · subst hj
      rw [List.getElem?_set] at h1
      split at h1
      · split at h1 <;> cases h1
      · rename_i c; exact absurd rfl c
    · rw [List.getElem?_set_ne hj] at h1 h2
      exact ⟨j, e, h1, h2⟩
  refine ⟨r.base, by rw [List.length_set, List.length_set]; exact r.len, fun j k o h1 h2 => ?_, fun j l e f a h1 h2 h3 h4 => ?_⟩
  · by_cases hj : i = j
    · subst hj
      rw [List.getElem?_set_self' ] at h1 h2
      cases q1 : ss[i]? with
      | none => rw [q1] at h1; cases h1
      | some _ =>
        cases q2 : σ[i]? with
        | none => rw [q2] at h2; cases h2
        | some _ =>
          rw [q1] at h1; rw [q2] at h2
          cases h1; cases h2
          exact ⟨v, rfl, p.weak fun a z => z.imp id (own a)⟩
    · rw [List.getElem?_set_ne hj] at h1 h2
      have h := r.slot j k o h1 h2
      cases k with
      | u => trivial
      | k w => exact h
      | v e =>
        obtain ⟨w, e, p⟩ := h
        exact ⟨w, e, p.weak fun a z => z.imp id (own a)⟩
      | o e =>
        obtain ⟨a, e, p, q⟩ := h
        exact ⟨a, e, p.chg fun b z _ => z.imp id (own b), q⟩
  · have hj : i ≠ j := fun c => by
      subst c
      rw [List.getElem?_set_self'] at h1
      cases q1 : ss[i]? with
      | none => rw [q1] at h1; cases h1
      | some _ => rw [q1] at h1; cases h1
    have hl : i ≠ l := fun c => by
      subst c
      rw [List.getElem?_set_self'] at h2
      cases q1 : ss[i]? with
      | none => rw [q1] at h2; cases h2
      | some _ => rw [q1] at h2; cases h2
    rw [List.getElem?_set_ne hj] at h1 h3
    rw [List.getElem?_set_ne hl] at h2 h4
    exact r.one j l e f a h1 h2 h3 h4
theorem Own.setv {i : Nat} {d : γ → PyData} {o : Option V} {a : Addr} (h : Own (ss.set i (.v d)) (σ.set i o) a) : Own ss σ a := by
  obtain ⟨j, e, h1, h2⟩ := h
  by_cases hj : i = j
  · subst hj
    rw [List.getElem?_set_self'] at h1
    cases q1 : ss[i]? with
    | none => rw [q1] at h1; cases h1
    | some _ => rw [q1] at h1; cases h1
  · rw [List.getElem?_set_ne hj] at h1 h2
    exact ⟨j, e, h1, h2⟩
theorem Own.seto {i : Nat} {d : γ → PyData} {b a : Addr} (h : Own (ss.set i (.o d)) (σ.set i (some (.ref b))) a) : Own ss σ a ∨ a = b := by
  obtain ⟨j, e, h1, h2⟩ := h
  by_cases hj : i = j
  · subst hj
    rw [List.getElem?_set_self'] at h2
    cases q1 : σ[i]? with
    | none => rw [q1] at h2; cases h2
    | some _ => rw [q1] at h2; cases h2; exact .inr rfl
  · rw [List.getElem?_set_ne hj] at h1 h2
    exact .inl ⟨j, e, h1, h2⟩
/-- a slot gets a list or dict of its own -/
theorem Rr.seto (r : Rr K Av H0 ss g σ H) (i : Nat) (d : γ → PyData) {b : Addr} (nb : ¬ Own ss σ b) (vb : ∀ (j : Nat) (k : SK γ) (o : Option V), ss[j]? = some k → σ[j]? = some o → slotR K Av (fun a => (Av a ∨ Own ss σ a) ∨ a = b) H0 H k g o)
    (p : RpO K (fun a => (Av a ∨ Own ss σ a) ∨ a = b) H b (d g)) (n0 : H0 b = none) (nA : ¬ Av b) (x : ∃ x, H b = some x ∧ ¬ immO x) : Rr K Av H0 (ss.set i (.o d)) g (σ.set i (some (.ref b))) H := by
  have own : ∀ a, (Av a ∨ Own (ss.set i (.o d)) (σ.set i (some (.ref b))) a) → ((Av a ∨ Own ss σ a) ∨ a = b) := fun a z => by
    rcases z with z | z
    · exact .inl (.inl z)
    · exact (Own.seto z).imp .inr id
  refine ⟨r.base, by rw [List.length_set, List.length_set]; exact r.len, fun j k o h1 h2 => ?_, fun j l e f a h1 h2 h3 h4 => ?_⟩
  · by_cases hj : i = j
    · subst hj
      rw [List.getElem?_set_self' ] at h1 h2
      cases q1 : ss[i]? with
      | none => rw [q1] at h1; cases h1
      | some _ =>
        cases q2 : σ[i]? with
        | none => rw [q2] at h2; cases h2
        | some _ =>
          rw [q1] at h1; rw [q2] at h2
          cases h1; cases h2
          exact ⟨b, rfl, p.chg fun a z _ => own a z, n0, nA, x⟩
    · rw [List.getElem?_set_ne hj] at h1 h2
      have h := vb j k o h1 h2
      cases k with
      | u => trivial
      | k w => exact h
      | v e =>
        obtain ⟨w, e, p⟩ := h
        exact ⟨w, e, p.weak own⟩
      | o e =>
        obtain ⟨a, e, p, q⟩ := h
        exact ⟨a, e, p.chg fun b z _ => own b z, q⟩
  · have at_i : ∀ {o : Option V}, (σ.set i (some (.ref b)))[i]? = some o → o = some (.ref b) := fun {o} h => by
      rw [List.getElem?_set_self'] at h
      cases q1 : σ[i]? with
      | none => rw [q1] at h; cases h
      | some _ => rw [q1] at h; cases h; rfl
    by_cases hj : i = j
    · by_cases hl : i = l
      · rw [← hj, hl]
      · subst hj
        rw [List.getElem?_set_ne hl] at h2 h4
        have := at_i h3
        cases this
        exact absurd ⟨l, f, h2, h4⟩ nb
    · by_cases hl : i = l
      · subst hl
        rw [List.getElem?_set_ne hj] at h1 h3
        have := at_i h4
        cases this
        exact absurd ⟨j, e, h1, h3⟩ nb
      · rw [List.getElem?_set_ne hj] at h1 h3
        rw [List.getElem?_set_ne hl] at h2 h4
        exact r.one j l e f a h1 h2 h3 h4
end

/-! ### less is known -/
inductive LeS {γ δ : Type} (π : γ → δ) : List (SK δ) → List (SK γ) → Prop
  | nil : LeS π [] []
  | u {k : SK γ} {as : List (SK δ)} {bs : List (SK γ)} : LeS π as bs → LeS π (.u :: as) (k :: bs)
  | v {d : δ → PyData} {d' : γ → PyData} {as : List (SK δ)} {bs : List (SK γ)} : (∀ g, d (π g) = d' g) → LeS π as bs → LeS π (.v d :: as) (.v d' :: bs)
  | o {d : δ → PyData} {d' : γ → PyData} {as : List (SK δ)} {bs : List (SK γ)} : (∀ g, d (π g) = d' g) → LeS π as bs → LeS π (.o d :: as) (.o d' :: bs)
  | k {v : V} {as : List (SK δ)} {bs : List (SK γ)} : LeS π as bs → LeS π (.k v :: as) (.k v :: bs)
  | ov {d : δ → PyData} {d' : γ → PyData} {as : List (SK δ)} {bs : List (SK γ)} : (∀ g, d (π g) = d' g) → LeS π as bs → LeS π (.v d :: as) (.o d' :: bs)
section
variable {K : PySem.W.Frag} {Av : Addr → Prop} {H0 H H' : Hp} {γ δ : Type} {g : γ} {σ : Sg} {π : γ → δ}
theorem LeS.length : ∀ {as : List (SK δ)} {bs : List (SK γ)}, LeS π as bs → as.length = bs.length
  | _, _, .nil => rfl
  | _, _, .u t => by simp [t.length]
  | _, _, .v _ t => by simp [t.length]
  | _, _, .o _ t => by simp [t.length]
  | _, _, .ov _ t => by simp [t.length]
  | _, _, .k t => by simp [t.length]
theorem LeS.get : ∀ {as : List (SK δ)} {bs : List (SK γ)} {i : Nat} {k : SK δ}, LeS π as bs → as[i]? = some k → ∃ k', bs[i]? = some k' ∧ match k with
    | .u => True
    | .v d => (∃ d', k' = .v d' ∧ ∀ g, d (π g) = d' g) ∨ ∃ d', k' = .o d' ∧ ∀ g, d (π g) = d' g
    | .o d => ∃ d', k' = .o d' ∧ ∀ g, d (π g) = d' g
    | .k z => k' = .k z
  | _, _, _, _, .nil, h => by simp at h
  | _, _, 0, _, .u t, h => by simp at h; subst h; exact ⟨_, rfl, trivial⟩
  | _, _, 0, _, .v e t, h => by simp at h; subst h; exact ⟨_, rfl, .inl ⟨_, rfl, e⟩⟩
  | _, _, 0, _, .o e t, h => by simp at h; subst h; exact ⟨_, rfl, _, rfl, e⟩
  | _, _, 0, _, .ov e t, h => by simp at h; subst h; exact ⟨_, rfl, .inr ⟨_, rfl, e⟩⟩
  | _, _, i + 1, _, .u t, h => by obtain ⟨k', h1, h2⟩ := t.get (i := i) (by simpa using h); exact ⟨k', by simpa using h1, h2⟩
  | _, _, i + 1, _, .v _ t, h => by obtain ⟨k', h1, h2⟩ := t.get (i := i) (by simpa using h); exact ⟨k', by simpa using h1, h2⟩
  | _, _, i + 1, _, .o _ t, h => by obtain ⟨k', h1, h2⟩ := t.get (i := i) (by simpa using h); exact ⟨k', by simpa using h1, h2⟩
  | _, _, 0, _, .k t, h => by simp at h; subst h; exact ⟨_, rfl, rfl⟩
  | _, _, i + 1, _, .k t, h => by obtain ⟨k', h1, h2⟩ := t.get (i := i) (by simpa using h); exact ⟨k', by simpa using h1, h2⟩
  | _, _, i + 1, _, .ov _ t, h => by obtain ⟨k', h1, h2⟩ := t.get (i := i) (by simpa using h); exact ⟨k', by simpa using h1, h2⟩
theorem LeS.own {as : List (SK δ)} {bs : List (SK γ)} (h : LeS π as bs) {a : Addr} (q : Own as σ a) : Own bs σ a := by
  obtain ⟨i, d, h1, h2⟩ := q
  obtain ⟨k', e1, d', e2, _⟩ := h.get h1
  subst e2
  exact ⟨i, d', e1, h2⟩
theorem Rr.le {as : List (SK δ)} {bs : List (SK γ)} (h : LeS π as bs) (r : Rr K Av H0 bs g σ H) : Rr K Av H0 as (π g) σ H := by
  have sub : ∀ a, (Av a ∨ Own as σ a) → (Av a ∨ Own bs σ a) := fun a z => z.imp id h.own
  refine ⟨r.base, by rw [h.length]; exact r.len, fun i k o h1 h2 => ?_, fun i j d e a h1 h2 h3 h4 => ?_⟩
  · obtain ⟨k', e1, q⟩ := h.get h1
    have s := r.slot i k' o e1 h2
    cases k with
    | u => trivial
    | k w => subst q; exact s
    | v d =>
      rcases q with ⟨d', rfl, e⟩ | ⟨d', rfl, e⟩
      · obtain ⟨v, ev, p⟩ := s
        exact ⟨v, ev, by rw [e]; exact p.weak sub⟩
      · obtain ⟨b, ev, p, n0, nA, x⟩ := s
        refine ⟨.ref b, ev, .obj ?_ (by rw [e]; exact p.chg fun b z _ => sub b z)⟩
        rintro (z | ⟨j, d2, z1, z2⟩)
        · exact nA z
        · obtain ⟨k2, f1, d3, f2, f3⟩ := h.get z1
          subst f2
          rw [ev] at h2
          have := r.one j i _ _ b f1 e1 z2 h2
          subst this
          rw [h1] at z1
          cases z1
    | o d =>
      obtain ⟨d', rfl, e⟩ := q
      obtain ⟨b, ev, p, r1⟩ := s
      exact ⟨b, ev, by rw [e]; exact p.chg fun b z _ => sub b z, r1⟩
  · obtain ⟨k1, f1, d1, rfl, _⟩ := h.get h1
    obtain ⟨k2, f2, d2, rfl, _⟩ := h.get h2
    exact r.one i j _ _ a f1 f2 h3 h4
/-- more, or fewer, addresses are avoided -/
theorem Rr.av {Av' : Addr → Prop} {ss : List (SK γ)} (r : Rr K Av H0 ss g σ H) (h : ∀ a, Av' a → Av a ∨ H a = none) (h0 : ∀ a, Av a → Av' a ∨ H0 a = none) : Rr K Av' H0 ss g σ H := by
  refine ⟨⟨fun a o e i => r.base.kp a o e fun z => ?_, r.base.ex⟩, r.len, fun i k o h1 h2 => ?_, r.one⟩
  · rcases h0 a z with z | z
    · exact i z
    · rw [z] at e; cases e
  · have s := r.slot i k o h1 h2
    have sub : ∀ a, (Av' a ∨ Own ss σ a) → H a ≠ none → (Av a ∨ Own ss σ a) := fun a z q => by
      rcases z with z | z
      · rcases h a z with z | z
        · exact .inl z
        · exact absurd z q
      · exact .inr z
    cases k with
    | u => trivial
    | k w => exact s
    | v d =>
      obtain ⟨v, e, p⟩ := s
      exact ⟨v, e, p.chg sub⟩
    | o d =>
      obtain ⟨a, e, p, n0, nA, x, hx, mx⟩ := s
      refine ⟨a, e, p.chg sub, n0, fun z => ?_, x, hx, mx⟩
      rcases h a z with z | z
      · exact nA z
      · rw [hx] at z; cases z
end
end TC

namespace TC
open PySem PySem.Spec PyProof.Rows L2
open Py (enc)

/-! ### blocks and statements -/
abbrev Nd (S τ : Type) := τ → S → (Addr → Prop) → Hp → Ends → Prop
inductive Fl (δ ρ : Type) where
  | nx (d : δ)
  | rt (x : ρ)
section
variable {S : Type} {m : Type → Type} [Monad m] [MR m S] {γ δ τ ρ α β : Type} [Py α] [Py β] [Py ρ]
def BJ (X : Cx) (W : Wd S) (H0 : Hp) (ss : List (SK γ)) (stmts : List Stmt) (f : γ → m τ) (N : γ → Nd S τ) : Prop :=
  ∀ g s t s', MR.run (f g) s = some (t, s') → ∀ σ H, Rr X.K W.Av H0 ss g σ H → W.WI s H → ∀ D, N g t s' (Own ss σ) H D → wSs X stmts D σ H
def SN (X : Cx) (W : Wd S) (H0 : Hp) (ss : List (SK γ)) (st : Stmt) (ss' : List (SK (γ × δ))) (f : γ → m δ) : Prop :=
  ∀ g s d s', MR.run (f g) s = some (d, s') → ∀ σ H, Rr X.K W.Av H0 ss g σ H → W.WI s H → ∀ D : Ends, (∀ σ' H', Tr W.Av (Own ss σ) H (Own ss' σ') H' → W.WI s' H' → Rr X.K W.Av H0 ss' (g, d) σ' H' → D.nx σ' H') → wS X st D σ H
def NdR (X : Cx) (W : Wd S) (H0 : Hp) (ρ : Type) [Py ρ] : Nd S ρ := fun x s' _ _ D => ∀ v H', gr W.Av H0 H' → W.WI s' H' → Rp X.K (fun a => H0 a ≠ none) H' v (enc x) → D.rt v H'
def NdN (X : Cx) (W : Wd S) (H0 : Hp) (ss' : List (SK (γ × δ))) (g : γ) : Nd S δ := fun d s' O H D => ∀ σ' H', Tr W.Av O H (Own ss' σ') H' → W.WI s' H' → Rr X.K W.Av H0 ss' (g, d) σ' H' → D.nx σ' H'
def NdF (X : Cx) (W : Wd S) (H0 : Hp) (ss' : List (SK (γ × δ))) (ρ : Type) [Py ρ] (g : γ) : Nd S (Fl δ ρ) := fun t s' O H D => match t with
  | .nx d => NdN X W H0 ss' g d s' O H D
  | .rt x => NdR X W H0 ρ x s' O H D
def NdMono (W : Wd S) (N : γ → Nd S τ) : Prop := ∀ g t s' O H D O1 H1, Tr W.Av O H O1 H1 → N g t s' O H D → N g t s' O1 H1 D
variable {X : Cx} {W : Wd S} {H0 : Hp} {ss : List (SK γ)} {N : γ → Nd S τ} {e a b c : Expr} {st : Stmt} {rest body : List Stmt} {pos : Pos}
theorem NdR.mono : NdMono W (fun _ : γ => NdR X W H0 ρ) := fun _ _ _ _ _ _ _ _ _ h => h
theorem NdN.mono {ss' : List (SK (γ × δ))} {ε : Type} {π : ε → γ} : NdMono W (fun g : ε => NdN X W H0 ss' (π g)) := fun g d s' O H D O1 H1 t h σ' H' t' w r => h σ' H' (t.trans t') w r
theorem NdF.mono {ss' : List (SK (γ × δ))} {ε : Type} {π : ε → γ} : NdMono W (fun g : ε => NdF X W H0 ss' ρ (π g)) := fun g d s' O H D O1 H1 t h => by
  cases d with
  | nx d => exact fun σ' H' t' w r => h σ' H' (t.trans t') w r
  | rt x => exact h
/-- one statement, then others -/
theorem B_seq {ss' : List (SK (γ × δ))} {f : γ → m δ} {r : γ → δ → m τ} (h : SN X W H0 ss st ss' f) (hr : BJ X W H0 ss' rest (fun g' => r g'.1 g'.2) (fun g' => N g'.1)) (hN : NdMono W N) :
    BJ X W H0 ss (st :: rest) (fun g => f g >>= fun d => r g d) N := fun g s t s' rn σ H hR hW D nd => by
  obtain ⟨d, s1, h1, h2⟩ := run_bind_some rn
  refine wSs.of (pss_cons (psW st) (pssW rest)) (h g s d s1 h1 σ H hR hW _ fun σ' H' t' w r' => ?_)
  exact hr (g, d) s1 t s' h2 σ' H' r' w D (hN _ _ _ _ _ _ _ _ t' nd)
/-- the end of a block -/
theorem B_end {ε : Type} {ss' : List (SK (δ × ε))} {π : γ → δ} {out : γ → ε} (le : LeS (fun g => (π g, out g)) ss' ss) : BJ X W H0 ss [] (fun g => (pure (out g) : m ε)) (fun g => NdN X W H0 ss' (π g)) := fun g s t s' rn σ H hR hW D nd => by
  obtain ⟨rfl, rfl⟩ := run_pure_some rn
  exact wSs.of pss_nil (nd σ H ⟨.refl _ _, fun a z => .inl (le.own z)⟩ hW (Rr.le (π := fun g => (π g, out g)) le hR))
theorem B_endF {ε : Type} {ss' : List (SK (δ × ε))} {π : γ → δ} {out : γ → ε} (le : LeS (fun g => (π g, out g)) ss' ss) : BJ X W H0 ss [] (fun g => (pure (.nx (out g)) : m (Fl ε ρ))) (fun g => NdF X W H0 ss' ρ (π g)) := fun g s t s' rn σ H hR hW D nd => by
  obtain ⟨rfl, rfl⟩ := run_pure_some rn
  exact wSs.of pss_nil (nd σ H ⟨.refl _ _, fun a z => .inl (le.own z)⟩ hW (Rr.le (π := fun g => (π g, out g)) le hR))
/-- return e -/
theorem B_ret {f : γ → m ρ} (h : EVf X W (Rr X.K W.Av H0 ss) e f) : BJ X W H0 ss (.Return (some e) pos :: rest) f (fun _ => NdR X W H0 ρ) := fun g s t s' rn σ H hR hW D nd =>
  wSs.of (pss_cons (ps_ret (peW e)) (pssW rest)) (h g s t s' rn σ H hR hW _ fun v H' g1 w1 p => nd v H' (hR.base.trans g1) w1 (p.weak fun a z => hR.base.ex a z))
theorem B_retI [Imm ρ] {f : γ → m ρ} (h : EV X W (Rr X.K W.Av H0 ss) e f) : BJ X W H0 ss (.Return (some e) pos :: rest) f (fun _ => NdR X W H0 ρ) := B_ret h.f
theorem B_retF {ss' : List (SK (δ × α))} {π : γ → δ} {f : γ → m ρ} (h : EVf X W (Rr X.K W.Av H0 ss) e f) : BJ X W H0 ss (.Return (some e) pos :: rest) (fun g => f g >>= fun x => pure (.rt x)) (fun g => NdF X W H0 ss' ρ (π g)) := fun g s t s' rn σ H hR hW D nd => by
  obtain ⟨x, s1, h1, h2⟩ := run_bind_some rn
  obtain ⟨rfl, rfl⟩ := run_pure_some h2
  exact B_ret (rest := rest) h g s x s1 h1 σ H hR hW D nd
/-- a list or dict of the def's own handed back -/
theorem B_retO {x : Str} {p : Pos} (i : Nat) {f : γ → Ls α} [Imm α] (hk : ss[i]? = some (.o fun g => enc (f g)))
    (hN : X.N[i]? = some x) (hv : Vis X.env.scope x) (hd : (x == ("__debug__" : Str)) = false) (hcd : (x == ("__classdict__" : Str)) = false) :
    BJ X W H0 ss (.Return (some (.Name x p)) pos :: rest) (fun g => (pure (f g) : m (Ls α))) (fun _ => NdR X W H0 (Ls α)) := fun g s t s' rn σ H hR hW D nd => by
  obtain ⟨rfl, rfl⟩ := run_pure_some rn
  have hi : i < ss.length := (List.getElem?_eq_some_iff.mp hk).1
  obtain ⟨w, hs⟩ : ∃ w, σ[i]? = some w := ⟨_, List.getElem?_eq_getElem (show i < σ.length by rw [← hR.len]; exact hi)⟩
  obtain ⟨a, rfl, q, n0, nA, _⟩ := hR.slot i _ _ hk hs
  refine wSs.of (pss_cons (ps_ret (pe_var hN hv hd hcd)) (pssW rest)) ⟨_, hs, nd _ H hR.base hW (.obj (fun z => z n0) ?_)⟩
  cases q with | lst z h t => exact .lst z h (t.any (immDs_map (f g).l))
/-- if c: (a return) -/
theorem B_if1 {t : γ → m Bool} {fa : γ → m ρ} {r : γ → m ρ} (hc : TV X W (Rr X.K W.Av H0 ss) c t) (hA : BJ X W H0 ss body fa (fun _ => NdR X W H0 ρ)) (hr : BJ X W H0 ss rest r (fun _ => NdR X W H0 ρ)) :
    BJ X W H0 ss (.If c body [] pos :: rest) (fun g => t g >>= fun b => if b = true then fa g else r g) (fun _ => NdR X W H0 ρ) := fun g s x s' rn σ H hR hW D nd => by
  obtain ⟨b, s1, h1, h2⟩ := run_bind_some rn
  refine wSs.of (pss_cons (ps_if (ptW c) (pssW body) pss_nil) (pssW rest)) (hc g s b s1 h1 σ H hR hW _ fun H' g1 w1 => ?_)
  cases b with
  | true =>
    simp only [if_true] at h2 ⊢
    exact hA g s1 x s' h2 σ H' (hR.st g1) w1 _ nd
  | false =>
    simp only [Bool.false_eq_true, if_false] at h2 ⊢
    exact hr g s1 x s' h2 σ H' (hR.st g1) w1 D nd
/-- .. within a loop's body -/
theorem B_if1F {ε : Type} {ss' : List (SK (δ × ε))} {π : γ → δ} {t : γ → m Bool} {fa : γ → m ρ} {r : γ → m (Fl ε ρ)} (hc : TV X W (Rr X.K W.Av H0 ss) c t) (hA : BJ X W H0 ss body fa (fun _ => NdR X W H0 ρ)) (hr : BJ X W H0 ss rest r (fun g => NdF X W H0 ss' ρ (π g))) :
    BJ X W H0 ss (.If c body [] pos :: rest) (fun g => t g >>= fun b => if b = true then fa g >>= fun x => pure (.rt x) else r g) (fun g => NdF X W H0 ss' ρ (π g)) := fun g s x s' rn σ H hR hW D nd => by
  obtain ⟨b, s1, h1, h2⟩ := run_bind_some rn
  refine wSs.of (pss_cons (ps_if (ptW c) (pssW body) pss_nil) (pssW rest)) (hc g s b s1 h1 σ H hR hW _ fun H' g1 w1 => ?_)
  cases b with
  | true =>
    simp only [if_true] at h2 ⊢
    obtain ⟨y, s2, h3, h4⟩ := run_bind_some h2
    obtain ⟨rfl, rfl⟩ := run_pure_some h4
    exact hA g s1 y s2 h3 σ H' (hR.st g1) w1 _ nd
  | false =>
    simp only [Bool.false_eq_true, if_false] at h2 ⊢
    exact hr g s1 x s' h2 σ H' (hR.st g1) w1 D (NdF.mono (π := π) g _ _ _ _ _ _ _ (.of_gr g1) nd)
/-- both ways return -/
theorem B_if2 {els : List Stmt} {t : γ → m Bool} {fa : γ → m ρ} {r : γ → m ρ} (hc : TV X W (Rr X.K W.Av H0 ss) c t) (hA : BJ X W H0 ss body fa (fun _ => NdR X W H0 ρ)) (hr : BJ X W H0 ss els r (fun _ => NdR X W H0 ρ)) :
    BJ X W H0 ss (.If c body els pos :: rest) (fun g => t g >>= fun b => if b = true then fa g else r g) (fun _ => NdR X W H0 ρ) := fun g s x s' rn σ H hR hW D nd => by
  obtain ⟨b, s1, h1, h2⟩ := run_bind_some rn
  refine wSs.of (pss_cons (ps_if (ptW c) (pssW body) (pssW els)) (pssW rest)) (hc g s b s1 h1 σ H hR hW _ fun H' g1 w1 => ?_)
  cases b with
  | true =>
    simp only [if_true] at h2 ⊢
    exact hA g s1 x s' h2 σ H' (hR.st g1) w1 _ nd
  | false =>
    simp only [Bool.false_eq_true, if_false] at h2 ⊢
    exact hr g s1 x s' h2 σ H' (hR.st g1) w1 _ nd
/-- both ways go on -/
theorem S_if {els : List Stmt} {ss' : List (SK (γ × δ))} {t : γ → m Bool} {fa : γ → m δ} {r : γ → m δ} (hc : TV X W (Rr X.K W.Av H0 ss) c t) (hA : BJ X W H0 ss body fa (fun g => NdN X W H0 ss' g)) (hr : BJ X W H0 ss els r (fun g => NdN X W H0 ss' g)) :
    SN X W H0 ss (.If c body els pos) ss' (fun g => t g >>= fun b => if b = true then fa g else r g) := fun g s x s' rn σ H hR hW D nd => by
  obtain ⟨b, s1, h1, h2⟩ := run_bind_some rn
  refine wS.of (ps_if (ptW c) (pssW body) (pssW els)) (hc g s b s1 h1 σ H hR hW _ fun H' g1 w1 => ?_)
  cases b with
  | true =>
    simp only [if_true] at h2 ⊢
    exact hA g s1 x s' h2 σ H' (hR.st g1) w1 _ fun σ' H' t' w' r' => nd σ' H' ((Tr.of_gr g1).trans t') w' r'
  | false =>
    simp only [Bool.false_eq_true, if_false] at h2 ⊢
    exact hr g s1 x s' h2 σ H' (hR.st g1) w1 _ fun σ' H' t' w' r' => nd σ' H' ((Tr.of_gr g1).trans t') w' r'

/-! ### stores -/
/-- a value of e's, new where it is a list or dict, in slot i -/
theorem Rr.put {g : γ} {σ : Sg} {H H1 : Hp} {s : S} {v : V} {x : α} (i : Nat) (hR : Rr X.K W.Av H0 ss g σ H) (hW : W.WI s H) (g1 : gr W.Av H H1) (p : Rp X.K (fun a => H a ≠ none) H1 v (enc x)) :
    Rr X.K W.Av H0 ((ss.map (SK.cm Prod.fst)).set i (.v fun g' : γ × α => enc g'.2)) (g, x) (σ.set i (some v)) H1 ∧ Tr W.Av (Own ss σ) H (Own ((ss.map (SK.cm Prod.fst)).set i (.v fun g' : γ × α => enc g'.2)) (σ.set i (some v))) H1 := by
  have r1 := ((hR.st g1).cm (Prod.fst : γ × α → γ) (g' := (g, x)) rfl)
  refine ⟨r1.setv i (fun g' => enc g'.2) (p.weak fun a z => ?_), (Tr.of_gr g1).g, fun a z => .inl (Own.cm (Own.setv z))⟩
  rcases z with z | z
  · exact W.old s H a hW z
  · exact (hR.ownS (Own.cm z)).1
theorem S_asg {x : Str} {px : Pos} (i : Nat) {f : γ → m α} (he : EVf X W (Rr X.K W.Av H0 ss) e f) (hN : X.N.Nodup) (hi : X.N[i]? = some x) (hx : Loc X.env.scope x) (hs : swapsWith e (some (.Name x px)) pos.line X.env = pure false) (hf : X.fn x = true) :
    SN X W H0 ss (.Assign [.Name x px] e pos) ((ss.map (SK.cm Prod.fst)).set i (.v fun g' : γ × α => enc g'.2)) f := fun g s y s' rn σ H hR hW D nd =>
  wS.of (ps_set hN hi hx (peW e) hs (.inl hf)) (he g s y s' rn σ H hR hW _ fun v H1 g1 w1 p => by
    obtain ⟨r, t⟩ := Rr.put i hR hW g1 p
    exact nd _ H1 t w1 r)
theorem Rr.putO {g : γ} {σ : Sg} {H H1 : Hp} {s : S} {v : V} {x : Ls α} (i : Nat) (hR : Rr X.K W.Av H0 ss g σ H) (hW : W.WI s H) (g1 : gr W.Av H H1) (p : Rp X.K (fun a => H a ≠ none) H1 v (enc x)) [Imm α] :
    Rr X.K W.Av H0 ((ss.map (SK.cm Prod.fst)).set i (.o fun g' : γ × Ls α => enc g'.2)) (g, x) (σ.set i (some v)) H1 ∧ Tr W.Av (Own ss σ) H (Own ((ss.map (SK.cm Prod.fst)).set i (.o fun g' : γ × Ls α => enc g'.2)) (σ.set i (some v))) H1 := by
  have r1 := ((hR.st g1).cm (Prod.fst : γ × Ls α → γ) (g' := (g, x)) rfl)
  obtain ⟨b, xs, rfl, nb, hz, hb, hx⟩ := p.lst_inv
  have nb' : H b = none := by
    cases q : H b with
    | none => rfl
    | some o => exact absurd (by rw [q]; simp) nb
  have nown : ¬ Own ss σ b := fun z => (hR.ownS z).1 nb'
  have nAv : ¬ W.Av b := fun z => W.old s H b hW z nb'
  have n0 : H0 b = none := by
    cases q : H0 b with
    | none => rfl
    | some o => exact absurd nb' (hR.base.ex b (by rw [q]; simp))
  refine ⟨r1.seto i (fun g' => enc g'.2) (fun z => nown (Own.cm z)) (fun j k o h1 h2 => ?_) (.lst hz hb (hx.any (immDs_map x.l))) n0 nAv ⟨_, hb, fun z => z⟩, (Tr.of_gr g1).g, fun a z => ?_⟩
  · -- what the other slots hold is older than b
    obtain ⟨k', e1, rfl⟩ := cm_get h1
    have s := hR.slot j k' o e1 h2
    have sub : ∀ a, (W.Av a ∨ Own (ss.map (SK.cm (Prod.fst : γ × Ls α → γ))) σ a) ∨ a = b → H a ≠ none → (W.Av a ∨ Own ss σ a) := fun a z q => by
      rcases z with z | rfl
      · exact z.imp id Own.cm
      · exact absurd nb' q
    have gB : gr (fun a => (W.Av a ∨ Own (ss.map (SK.cm (Prod.fst : γ × Ls α → γ))) σ a) ∨ a = b) H H1 := g1.mono fun a z => .inl (.inl z)
    cases k' with
    | u => trivial
    | k w => exact s
    | v d =>
      obtain ⟨w, e, p⟩ := s
      exact ⟨w, e, (p.chg sub).mono gB⟩
    | o d =>
      obtain ⟨a, e, p, n0, nA, y, hy, my⟩ := s
      exact ⟨a, e, (p.chg sub).mono2 gB g1 nA, n0, nA, y, g1.immO hy nA, my⟩
  · rcases Own.seto z with z | rfl
    · exact .inl (Own.cm z)
    · exact .inr nb'
theorem S_asgO {x : Str} {px : Pos} (i : Nat) {f : γ → m (Ls α)} [Imm α] (he : EVf X W (Rr X.K W.Av H0 ss) e f) (hN : X.N.Nodup) (hi : X.N[i]? = some x) (hx : Loc X.env.scope x) (hs : swapsWith e (some (.Name x px)) pos.line X.env = pure false) (hf : X.fn x = true) :
    SN X W H0 ss (.Assign [.Name x px] e pos) ((ss.map (SK.cm Prod.fst)).set i (.o fun g' : γ × Ls α => enc g'.2)) f := fun g s y s' rn σ H hR hW D nd =>
  wS.of (ps_set hN hi hx (peW e) hs (.inl hf)) (he g s y s' rn σ H hR hW _ fun v H1 g1 w1 p => by
    obtain ⟨r, t⟩ := Rr.putO i hR hW g1 p
    exact nd _ H1 t w1 r)

/-! targets -/
def wG (X : Cx) (tg : Expr) : TG := fun v σ H Q => ∀ pins s u, Inv X pins σ H s → RelV v u → wpAny (model X.prog X.w) X.A (assign tg X.env u) (fun _ s' => ∃ σ' H', Inv X pins σ' H' s' ∧ Q σ' H') X.xe s
theorem pgW (tg : Expr) : PG X tg (wG X tg) := ⟨fun pins s _ _ _ u _ I r h => h pins s u I r⟩
theorem wG.of {tg : Expr} {t : TG} (p : PG X tg t) {v : V} {σ : Sg} {H : Hp} {Q : Sg → Hp → Prop} (h : t v σ H Q) : wG X tg v σ H Q := fun pins s u I r => p.run pins s σ H v u Q I r h
def setAll : List (Nat × V) → Sg → Sg
  | [], σ => σ
  | (i, v) :: r, σ => setAll r (σ.set i (some v))
def setK {ε : Type} : List (Nat × (ε → PyData)) → List (SK ε) → List (SK ε)
  | [], ss => ss
  | (i, d) :: r, ss => setK r (ss.set i (.v d))
/-- the target takes data d apart: slot i gets its part -/
def TJ (X : Cx) (tg : Expr) (ups : List (Nat × (β → PyData))) : Prop :=
  ∀ v y σ H, Rp X.K (fun _ => True) H v (enc y : PyData) → ∀ Q : Sg → Hp → Prop, (∀ vs : List V, RpAll X.K (fun _ => True) H vs (ups.map fun u => u.2 y) → Q (setAll ((ups.map (·.1)).zip vs) σ) H) → wG X tg v σ H Q
theorem G_name {x : Str} {p : Pos} (i : Nat) (hN : X.N.Nodup) (hi : X.N[i]? = some x) (hx : Loc X.env.scope x) (hf : X.fn x = true ∨ X.env.scope.names.lookup x = some .local) : TJ (β := β) X (.Name x p) [(i, fun y => enc y)] := fun v y σ H p Q q =>
  wG.of (pg_name hN hi hx hf) (q [v] (.cons p .nil))
theorem Rr.setK {ε : Type} {g : ε} {K : PySem.W.Frag} {Av : Addr → Prop} : ∀ {ups : List (Nat × (ε → PyData))} {vs : List V} {ss : List (SK ε)} {σ : Sg} {H : Hp}, RpAll K (fun _ => True) H vs (ups.map fun u => u.2 g) → Rr K Av H0 ss g σ H →
    Rr K Av H0 (setK ups ss) g (setAll ((ups.map (·.1)).zip vs) σ) H ∧ ∀ a, Own (setK ups ss) (setAll ((ups.map (·.1)).zip vs) σ) a → Own ss σ a
  | [], _, _, _, _, _, r => ⟨r, fun _ z => z⟩
  | (i, d) :: ups, [], _, _, _, h, _ => nomatch h
  | (i, d) :: ups, v :: vs, ss, σ, H, .cons p t, r => by
    obtain ⟨r2, o2⟩ := Rr.setK (ups := ups) (vs := vs) t (r.setv i d (p.weak fun _ _ => trivial))
    exact ⟨r2, fun a z => Own.setv (o2 a z)⟩

/-- (a, b) = .. -/
theorem G_tup {es : List Expr} {k : Nat} {p : Pos} {n : Nat} {ups : List (Nat × (β → PyData))} {t : TGs} (hc : X.calm = true) (hp : PGs X es t) (hn : (assignEach es X.env).length = n := by rfl) (hst : (assignEach es X.env).findIdx? (·.1) = none := by rfl)
    (parts : ∀ y : β, ∃ ds, (enc y : PyData) = .tuple ds ∧ ds.length = n ∧ ∀ vs σ H (Q : Sg → Hp → Prop), RpAll X.K (fun _ => True) H vs ds → (∀ vs : List V, RpAll X.K (fun _ => True) H vs (ups.map fun u => u.2 y) → Q (setAll ((ups.map (·.1)).zip vs) σ) H) → t vs σ H Q) : TJ X (.Tuple es k p) ups := fun v y σ H p Q q => by
  obtain ⟨ds, e1, e2, e3⟩ := parts y
  rw [e1] at p
  obtain ⟨a, xs, rfl, hz, hs, hx⟩ := p.tup_inv
  exact wG.of (pg_tup hc hp hn hst) ⟨a, xs, rfl, hs, by rw [hx.length, e2], e3 xs σ H Q hx q⟩
theorem G_tup2 {x0 x1 : Str} {p0 p1 p : Pos} {k : Nat} (i0 i1 : Nat) (d0 d1 : β → PyData) (hc : X.calm = true) (hN : X.N.Nodup) (h0 : X.N[i0]? = some x0) (h1 : X.N[i1]? = some x1) (hx0 : Loc X.env.scope x0) (hx1 : Loc X.env.scope x1)
    (hf0 : X.fn x0 = true ∨ X.env.scope.names.lookup x0 = some .local) (hf1 : X.fn x1 = true ∨ X.env.scope.names.lookup x1 = some .local) (he : ∀ y : β, (enc y : PyData) = .tuple [d0 y, d1 y] := by intro y; rfl)
    (hn : (assignEach [.Name x0 p0, .Name x1 p1] X.env).length = 2 := by rfl) (hst : (assignEach [.Name x0 p0, .Name x1 p1] X.env).findIdx? (·.1) = none := by rfl) : TJ X (.Tuple [.Name x0 p0, .Name x1 p1] k p) [(i0, d0), (i1, d1)] :=
  G_tup hc (pgs_cons (pg_name hN h0 hx0 hf0) (pgs_cons (pg_name hN h1 hx1 hf1) pgs_nil)) hn hst fun y => ⟨_, he y, rfl, fun vs σ H Q r q => by
    cases r with | cons a r => cases r with | cons b r => cases r; exact ⟨_, _, rfl, _, _, rfl, rfl, q [_, _] (.cons a (.cons b .nil))⟩⟩
theorem G_tup3 {x0 x1 x2 : Str} {p0 p1 p2 p : Pos} {k : Nat} (i0 i1 i2 : Nat) (d0 d1 d2 : β → PyData) (hc : X.calm = true) (hN : X.N.Nodup) (h0 : X.N[i0]? = some x0) (h1 : X.N[i1]? = some x1) (h2 : X.N[i2]? = some x2) (hx0 : Loc X.env.scope x0) (hx1 : Loc X.env.scope x1) (hx2 : Loc X.env.scope x2)
    (hf0 : X.fn x0 = true ∨ X.env.scope.names.lookup x0 = some .local) (hf1 : X.fn x1 = true ∨ X.env.scope.names.lookup x1 = some .local) (hf2 : X.fn x2 = true ∨ X.env.scope.names.lookup x2 = some .local) (he : ∀ y : β, (enc y : PyData) = .tuple [d0 y, d1 y, d2 y] := by intro y; rfl)
    (hn : (assignEach [.Name x0 p0, .Name x1 p1, .Name x2 p2] X.env).length = 3 := by rfl) (hst : (assignEach [.Name x0 p0, .Name x1 p1, .Name x2 p2] X.env).findIdx? (·.1) = none := by rfl) : TJ X (.Tuple [.Name x0 p0, .Name x1 p1, .Name x2 p2] k p) [(i0, d0), (i1, d1), (i2, d2)] :=
  G_tup hc (pgs_cons (pg_name hN h0 hx0 hf0) (pgs_cons (pg_name hN h1 hx1 hf1) (pgs_cons (pg_name hN h2 hx2 hf2) pgs_nil))) hn hst fun y => ⟨_, he y, rfl, fun vs σ H Q r q => by
    cases r with | cons a r => cases r with | cons b r => cases r with | cons c r => cases r; exact ⟨_, _, rfl, _, _, rfl, _, _, rfl, rfl, q [_, _, _] (.cons a (.cons b (.cons c .nil)))⟩⟩
theorem G_tup4 {x0 x1 x2 x3 : Str} {p0 p1 p2 p3 p : Pos} {k : Nat} (i0 i1 i2 i3 : Nat) (d0 d1 d2 d3 : β → PyData) (hc : X.calm = true) (hN : X.N.Nodup) (h0 : X.N[i0]? = some x0) (h1 : X.N[i1]? = some x1) (h2 : X.N[i2]? = some x2) (h3 : X.N[i3]? = some x3)
    (hx0 : Loc X.env.scope x0) (hx1 : Loc X.env.scope x1) (hx2 : Loc X.env.scope x2) (hx3 : Loc X.env.scope x3)
    (hf0 : X.fn x0 = true ∨ X.env.scope.names.lookup x0 = some .local) (hf1 : X.fn x1 = true ∨ X.env.scope.names.lookup x1 = some .local) (hf2 : X.fn x2 = true ∨ X.env.scope.names.lookup x2 = some .local) (hf3 : X.fn x3 = true ∨ X.env.scope.names.lookup x3 = some .local) (he : ∀ y : β, (enc y : PyData) = .tuple [d0 y, d1 y, d2 y, d3 y] := by intro y; rfl)
    (hn : (assignEach [.Name x0 p0, .Name x1 p1, .Name x2 p2, .Name x3 p3] X.env).length = 4 := by rfl) (hst : (assignEach [.Name x0 p0, .Name x1 p1, .Name x2 p2, .Name x3 p3] X.env).findIdx? (·.1) = none := by rfl) :
    TJ X (.Tuple [.Name x0 p0, .Name x1 p1, .Name x2 p2, .Name x3 p3] k p) [(i0, d0), (i1, d1), (i2, d2), (i3, d3)] :=
  G_tup hc (pgs_cons (pg_name hN h0 hx0 hf0) (pgs_cons (pg_name hN h1 hx1 hf1) (pgs_cons (pg_name hN h2 hx2 hf2) (pgs_cons (pg_name hN h3 hx3 hf3) pgs_nil)))) hn hst fun y => ⟨_, he y, rfl, fun vs σ H Q r q => by
    cases r with | cons a r => cases r with | cons b r => cases r with | cons c r => cases r with | cons d r => cases r; exact ⟨_, _, rfl, _, _, rfl, _, _, rfl, _, _, rfl, rfl, q [_, _, _, _] (.cons a (.cons b (.cons c (.cons d .nil))))⟩⟩
/-- target = e -/
theorem S_asgT {tg : Expr} {ups : List (Nat × (β → PyData))} [Imm β] {f : γ → m β} (he : EV X W (Rr X.K W.Av H0 ss) e f) (ht : TJ X tg ups) (hs : swapsWithSole [tg] e pos.line X.env = pure false) (hw : swappedStores [tg] e X.env = pure none) (h1 : (assignEach [tg] X.env).map (·.2) = [assign tg X.env]) :
    SN X W H0 ss (.Assign [tg] e pos) (setK (ups.map fun u => (u.1, fun g' : γ × β => u.2 g'.2)) (ss.map (SK.cm Prod.fst))) f := fun g s y s' rn σ H hR hW D nd =>
  wS.of (ps_asg (peW e) (pgW tg) hs hw h1) (he g s y s' rn σ H hR hW _ fun v H1 g1 w1 p => ht v y σ H1 (p.any (Imm.imm y)) _ fun vs hv => by
    have r1 := ((hR.st g1).cm (Prod.fst : γ × β → γ) (g' := (g, y)) rfl)
    have hv' : RpAll X.K (fun _ => True) H1 vs ((ups.map fun u => (u.1, fun g' : γ × β => u.2 g'.2)).map fun u => u.2 (g, y)) := by rw [List.map_map]; exact hv
    obtain ⟨r2, o2⟩ := Rr.setK hv' r1
    have e1 : (ups.map fun u => (u.1, fun g' : γ × β => u.2 g'.2)).map (·.1) = ups.map (·.1) := by rw [List.map_map]; rfl
    rw [e1] at r2 o2
    exact nd _ H1 ⟨(Tr.of_gr g1).g, fun a z => .inl (Own.cm (o2 a z))⟩ w1 r2)
/-- x, y = a, b: plain local names -/
theorem S_par2 {x y : Str} {px py pt : Pos} {kt k2 : Nat} {pt2 : Pos} (i j : Nat) [Imm α] [Imm β] {fa : γ → m α} {fb : γ → m β} (n0 : NS a) (n1 : NS b) (ha : EV X W (Rr X.K W.Av H0 ss) a fa) (hb : EV X W (Rr X.K W.Av H0 ss) b fb)
    (hc : X.calm = true) (hN : X.N.Nodup) (hi : X.N[i]? = some x) (hj : X.N[j]? = some y) (hij : i ≠ j)
    (hx : X.env.scope.names.lookup x = some .local) (hy : X.env.scope.names.lookup y = some .local)
    (hw : swappedStores [.Tuple [.Name x px, .Name y py] kt pt] (.Tuple [a, b] k2 pt2) X.env = pure (some [x, y]))
    (hs : swapsWithSole [.Tuple [.Name x px, .Name y py] kt pt] (.Tuple [a, b] k2 pt2) pos.line X.env = pure false) :
    SN X W H0 ss (.Assign [.Tuple [.Name x px, .Name y py] kt pt] (.Tuple [a, b] k2 pt2) pos) (setK [(i, fun g' : γ × (α × β) => enc g'.2.1), (j, fun g' => enc g'.2.2)] (ss.map (SK.cm Prod.fst))) (fun g => fa g >>= fun x => fb g >>= fun y => pure (x, y)) := fun g s t s' rn σ H hR hW D nd => by
  obtain ⟨z0, s1, e0, rn⟩ := run_bind_some rn
  obtain ⟨z1, s2, e1, rn⟩ := run_bind_some rn
  obtain ⟨rfl, rfl⟩ := run_pure_some rn
  refine wS.of (ps_par hc hN hi hj hij hx hy (pa_cons (peW a) (pa_cons (peW b) pa_nil (n1 _ _)) (n0 _ _)) hw hs) ?_
  refine EV.two Rr.stb ha hb e0 e1 hR hW fun v u H1 g1 w1 p1 p2 => ⟨v, u, rfl, ?_⟩
  have r1 := ((hR.st g1).cm (Prod.fst : γ × (α × β) → γ) (g' := (g, (z0, z1))) rfl)
  obtain ⟨r2, o2⟩ := Rr.setK (ups := [(i, fun g' : γ × (α × β) => enc g'.2.1), (j, fun g' => enc g'.2.2)]) (vs := [v, u]) (.cons (p1.any (Imm.imm z0)) (.cons (p2.any (Imm.imm z1)) .nil)) r1
  exact nd _ H1 ⟨(Tr.of_gr g1).g, fun a z => .inl (Own.cm (o2 a z))⟩ w1 r2
/-- x += e, ints -/
theorem S_augI {x : Str} {px : Pos} {op : Operator} {G : Int → Int → Int} (ho : PIp X op (fun x y H Q => ∃ i j, x = .int i ∧ y = .int j ∧ Q (.int (G i j)) H)) (i : Nat) {fx : γ → Int} {f : γ → m Int} (hk : ss[i]? = some (.v fun g => enc (fx g))) (he : EV X W (Rr X.K W.Av H0 ss) e f)
    (hN : X.N.Nodup) (hi : X.N[i]? = some x) (hx : Loc X.env.scope x) (hf : X.fn x = true) :
    SN X W H0 ss (.AugAssign (.Name x px) op e pos) ((ss.map (SK.cm Prod.fst)).set i (.v fun g' : γ × Int => enc g'.2)) (fun g => f g >>= fun y => pure (G (fx g) y)) := fun g s t s' rn σ H hR hW D nd => by
  obtain ⟨z0, s1, e0, rn⟩ := run_bind_some rn
  obtain ⟨rfl, rfl⟩ := run_pure_some rn
  obtain ⟨v, ev, p⟩ := hR.get (.inl hk)
  refine wS.of (ps_aug hN hi hx (peW e) ho (.inl hf)) ⟨v, ev, he g s z0 _ e0 σ H hR hW _ fun w H1 g1 w1 p1 => ⟨_, _, p.int_inv, p1.int_inv, ?_⟩⟩
  obtain ⟨r, t⟩ := Rr.put (x := G (fx g) z0) i hR hW g1 (.int _)
  exact nd _ H1 t w1 r
end

/-! ### what is walked -/
/-- the iterator J gives xs, while the heap but A's is kept -/
def Wk {β : Type} [Py β] (K : PySem.W.Frag) (A : Addr → Prop) (J : It) (H1 : Hp) (xs : List β) : Prop :=
  xs.length ≤ sizeLine ∧ ∀ H', gr A H1 H' → (∀ i, xs.length ≤ i → J.stop i H') ∧ ∀ i y, xs[i]? = some y → J.go i H' ∧ ∀ x H'', J.yld i H' x H'' → Same H' H'' ∧ Rp K (fun _ => True) H'' x (enc y)
section
variable {S : Type} {m : Type → Type} [Monad m] [MR m S] {γ α β : Type} [Py α] [Py β]
def IV (X : Cx) (W : Wd S) (H0 : Hp) (ss : List (SK γ)) (tg iter : Expr) (f : γ → m (List β)) : Prop :=
  ∀ g s xs s', MR.run (f g) s = some (xs, s') → ∀ σ H, Rr X.K W.Av H0 ss g σ H → W.WI s H → ∀ Q : It → Hp → Prop,
    (∀ J H1, gr W.Av H H1 → W.WI s' H1 → Wk X.K (fun a => W.Av a ∨ Own ss σ a) J H1 xs → Q J H1) → wI X tg iter σ H Q
variable {X : Cx} {W : Wd S} {H0 : Hp} {ss : List (SK γ)} {e a b c tg : Expr} {pos : Pos}
theorem RpAll.getI [Imm β] {K : PySem.W.Frag} {A : Addr → Prop} {H : Hp} {vs : List V} {xs : List β} (h : RpAll K A H vs (xs.map enc)) {i : Nat} {y : β} (e : xs[i]? = some y) : ∃ v, vs[i]? = some v ∧ Rp K (fun _ => True) H v (enc y) := by
  obtain ⟨v, h1, h2⟩ := h.get (i := i) (d := enc y) (by rw [List.getElem?_map, e]; rfl)
  exact ⟨v, h1, h2.any (Imm.imm y)⟩
/-- a tuple -/
theorem I_tup [Imm β] {f : γ → m (List β)} (h : EV X W (Rr X.K W.Av H0 ss) e f) : IV X W H0 ss tg e f := fun g s xs s' rn σ H hR hW Q q => by
  refine wI.of (pi_tup (peW e)) (h g s xs s' rn σ H hR hW _ fun v H1 g1 w1 p => ?_)
  obtain ⟨a, vs, rfl, hz, hs, hx⟩ := p.tup_inv
  refine ⟨a, rfl, ⟨vs, hs⟩, q _ H1 g1 w1 ⟨by rw [← List.length_map (f := enc) (as := xs), ← hx.length]; exact hz, fun H' g' => ?_⟩⟩
  have hs' := g'.sqt hs
  have hx' : RpAll X.K (fun _ => True) H' vs (xs.map enc) := RpAll.mono (g'.mono fun _ _ => trivial) (hx.any (immDs_map xs))
  have hl := hx.length
  rw [List.length_map] at hl
  refine ⟨fun i hi => ⟨vs, hs', by rw [hl]; exact hi⟩, fun i y hy => ?_⟩
  obtain ⟨v, e1, e2⟩ := hx'.getI hy
  refine ⟨⟨vs, v, hs', e1⟩, fun x H'' hyl => ?_⟩
  obtain ⟨rfl, hyl⟩ := hyl
  have := hyl vs hs'
  rw [e1] at this
  cases this
  exact ⟨Same.refl _, e2⟩
/-- a list that nobody changes -/
theorem wk_list [Imm β] {K : PySem.W.Frag} {A B : Addr → Prop} {a : Addr} {vs : List V} {xs : List β} {H1 : Hp} (hn : ¬ A a) (hs : H1 a = some (.lst vs)) (hz : vs.length ≤ sizeLine) (hx : RpAll K B H1 vs (xs.map enc)) : Wk K A (Itl K a) H1 xs := ⟨by rw [← List.length_map (f := enc) (as := xs), ← hx.length]; exact hz, fun H' g' => by
  have hs' : SqL K H' a vs := .of (g'.kp a _ hs fun z => absurd z hn)
  have hx' : RpAll K (fun _ => True) H' vs (xs.map enc) := RpAll.mono (g'.mono fun _ _ => trivial) (hx.any (immDs_map xs))
  have hl := hx.length
  rw [List.length_map] at hl
  refine ⟨fun i hi => ⟨vs, hs', by rw [hl]; exact hi⟩, fun i y hy => ?_⟩
  obtain ⟨v, e1, e2⟩ := hx'.getI hy
  refine ⟨⟨vs, v, hs', e1⟩, fun x H'' hyl => ?_⟩
  obtain ⟨rfl, hyl⟩ := hyl
  have := hyl vs hs'
  rw [e1] at this
  cases this
  exact ⟨Same.refl _, e2⟩⟩
theorem I_lst [Imm β] {f : γ → m (Ls β)} (h : EVf X W (Rr X.K W.Av H0 ss) e f) : IV X W H0 ss tg e (fun g => f g >>= fun x => pure x.l) := fun g s xs s' rn σ H hR hW Q q => by
  obtain ⟨z0, s1, e0, rn⟩ := run_bind_some rn
  obtain ⟨rfl, rfl⟩ := run_pure_some rn
  refine wI.of (pi_list (peW e)) (h g s z0 s1 e0 σ H hR hW _ fun v H1 g1 w1 p => ?_)
  obtain ⟨a, vs, rfl, hn, hz, hs, hx⟩ := p.lst_inv
  refine ⟨a, rfl, ⟨vs, .of hs⟩, q _ H1 g1 w1 (wk_list (fun z => ?_) hs hz hx)⟩
  rcases z with z | z
  · exact hn (W.old s H a hW z)
  · exact hn (hR.ownS z).1
/-- a name that holds a list -/
theorem I_lstV [Imm β] {x : Str} {p : Pos} (i : Nat) {f : γ → Ls β} (hk : ss[i]? = some (.v fun g => enc (f g)))
    (hN : X.N[i]? = some x) (hv : Vis X.env.scope x) (hd : (x == ("__debug__" : Str)) = false) (hcd : (x == ("__classdict__" : Str)) = false) :
    IV X W H0 ss tg (.Name x p) (fun g => (pure (f g).l : m (List β))) := fun g s xs s' rn σ H hR hW Q q => by
  obtain ⟨rfl, rfl⟩ := run_pure_some rn
  have hi : i < ss.length := (List.getElem?_eq_some_iff.mp hk).1
  obtain ⟨w, hs⟩ : ∃ w, σ[i]? = some w := ⟨_, List.getElem?_eq_getElem (show i < σ.length by rw [← hR.len]; exact hi)⟩
  obtain ⟨v, rfl, p⟩ := hR.slot i _ _ hk hs
  obtain ⟨a, vs, rfl, hn, hz, hl, hx⟩ := p.lst_inv
  exact wI.of (pi_list (pe_var hN hv hd hcd)) ⟨_, hs, a, rfl, ⟨vs, .of hl⟩, q _ H (.refl _ _) hW (wk_list hn hl hz hx)⟩
/-- lo, lo + 1, .. below hi -/
def rngL (lo hi : Int) : List Int := (List.range (hi - lo).toNat).map fun i => lo + (i : Nat)
def rngM (lo hi : Int) : Option (List Int) := if -1000000 ≤ lo ∧ lo ≤ 1000000 ∧ -1000000 ≤ hi ∧ hi ≤ 1000000 then some (rngL lo hi) else none
theorem rngL_get {lo hi : Int} {i : Nat} {y : Int} (h : (rngL lo hi)[i]? = some y) : i < (hi - lo).toNat ∧ y = lo + i := by
  unfold rngL at h
  rw [List.getElem?_map] at h
  cases q : (List.range (hi - lo).toNat)[i]? with
  | none => rw [q] at h; cases h
  | some j =>
    rw [q] at h
    cases h
    obtain ⟨h1, h2⟩ := List.getElem?_eq_some_iff.mp q
    rw [List.length_range] at h1
    rw [List.getElem_range] at h2
    subst h2
    exact ⟨h1, rfl⟩
theorem rngL_len {lo hi : Int} : (rngL lo hi).length = (hi - lo).toNat := by simp [rngL]
theorem wk_rng {K : PySem.W.Frag} {A : Addr → Prop} {H1 : Hp} {lo hi : Int} (hb : hi - lo ≤ 2000000) : Wk K A (Itr lo (hi - lo).toNat) H1 (rngL lo hi) := ⟨by
    rw [rngL_len]
    exact Nat.le_trans (show (hi - lo).toNat ≤ 2000000 by omega) (by decide), fun H' g' => by
  refine ⟨fun i hi => by rw [rngL_len] at hi; exact hi, fun i y hy => ?_⟩
  obtain ⟨h1, rfl⟩ := rngL_get hy
  refine ⟨h1, fun x H'' hyl => ?_⟩
  obtain ⟨rfl, rfl⟩ := hyl
  exact ⟨Same.refl _, .int _⟩⟩
theorem I_rng1 {p : Pos} {f : γ → m Int} (hm : X.mg "range" = none) (hg : Gl X "range") (n : NS a) (h : EV X W (Rr X.K W.Av H0 ss) a f) : IV X W H0 ss tg (.Call (.Name "range" p) [a] [] pos) (fun g => f g >>= fun n => MR.lift (rngM 0 n)) := fun g s xs s' rn σ H hR hW Q q => by
  obtain ⟨z0, s1, e0, rn⟩ := run_bind_some rn
  obtain ⟨h3, rfl⟩ := run_lift_some rn
  unfold rngM at h3
  split at h3
  · rename_i c
    cases h3
    refine wI.of (pi_range1 hg hm (pa_cons (peW a) pa_nil (n _ _)) (by rw [n]; unfold starEach; rfl)) (h g s z0 _ e0 σ H hR hW _ fun v H1 g1 w1 p => ⟨z0, by rw [p.int_inv], by omega, by omega, q _ H1 g1 w1 ?_⟩)
    have := wk_rng (K := X.K) (A := fun a => W.Av a ∨ Own ss σ a) (H1 := H1) (lo := 0) (hi := z0) (by omega)
    rw [Int.sub_zero] at this
    exact this
  · cases h3
theorem I_rng2 {p : Pos} {f k : γ → m Int} (hm : X.mg "range" = none) (hg : Gl X "range") (n : NS a) (n' : NS b) (h : EV X W (Rr X.K W.Av H0 ss) a f) (h' : EV X W (Rr X.K W.Av H0 ss) b k) : IV X W H0 ss tg (.Call (.Name "range" p) [a, b] [] pos) (fun g => f g >>= fun lo => k g >>= fun hi => MR.lift (rngM lo hi)) := fun g s xs s' rn σ H hR hW Q q => by
  obtain ⟨z0, s1, e0, rn⟩ := run_bind_some rn
  obtain ⟨z1, s2, e1, rn⟩ := run_bind_some rn
  obtain ⟨h3, rfl⟩ := run_lift_some rn
  unfold rngM at h3
  split at h3
  · rename_i c
    cases h3
    exact wI.of (pi_range2 hg hm (pa_cons (peW a) (pa_cons (peW b) pa_nil (n' _ _)) (n _ _)) (by rw [n, n']; unfold starEach; rfl) (by rw [n']; unfold starEach; rfl)) (EV.two Rr.stb h h' e0 e1 hR hW fun v u H1 g1 w1 p p' => ⟨z0, z1, by rw [p.int_inv, p'.int_inv], ⟨by omega, by omega, by omega, by omega⟩, q _ H1 g1 w1 (wk_rng (by omega))⟩)
  · cases h3
/-- zip of two tuples -/
theorem I_zipT [Imm α] [Imm β] {es : List Expr} {k : Nat} {tp p : Pos} {f : γ → m (List α)} {f' : γ → m (List β)} (hm : X.mg "zip" = none) (hg : Gl X "zip") (n : NS a) (n' : NS b) (h : EV X W (Rr X.K W.Av H0 ss) a f) (h' : EV X W (Rr X.K W.Av H0 ss) b f') :
    IV X W H0 ss (.Tuple es k tp) (.Call (.Name "zip" p) [a, b] [] pos) (fun g => f g >>= fun x => f' g >>= fun y => pure (x.zip y)) := fun g s xs s' rn σ H hR hW Q q => by
  obtain ⟨z0, s1, e0, rn⟩ := run_bind_some rn
  obtain ⟨z1, s2, e1, rn⟩ := run_bind_some rn
  obtain ⟨rfl, rfl⟩ := run_pure_some rn
  refine wI.of (RZ.pi_zipA hg hm (pa_cons (peW a) (pa_cons (peW b) pa_nil (n' _ _)) (n _ _)) (n _ _) (by rw [backTo_any, n']; unfold starEach; rfl)) (EV.two Rr.stb h h' e0 e1 hR hW fun v u H1 g1 w1 p p' => ?_)
  obtain ⟨a, vs, rfl, hz, hs, hx⟩ := p.tup_inv
  obtain ⟨b, us, rfl, hz', hs', hx'⟩ := p'.tup_inv
  have hlen : (z0.zip z1).length ≤ sizeLine := by
    have hl := hx.length
    rw [List.length_map] at hl
    rw [List.length_zip]; omega
  refine ⟨a, b, vs, us, rfl, .inr ⟨hs, hs', q _ H1 g1 w1 ⟨hlen, fun H' g' => ?_⟩⟩⟩
  have ha := g'.sqt hs
  have hb := g'.sqt hs'
  have hX : RpAll X.K (fun _ => True) H' vs (z0.map enc) := RpAll.mono (g'.mono fun _ _ => trivial) (hx.any (immDs_map z0))
  have hY : RpAll X.K (fun _ => True) H' us (z1.map enc) := RpAll.mono (g'.mono fun _ _ => trivial) (hx'.any (immDs_map z1))
  have hl := hx.length
  have hl' := hx'.length
  rw [List.length_map] at hl hl'
  refine ⟨fun i hi => ⟨vs, us, ha, hb, ?_⟩, fun i y hy => ?_⟩
  · rw [List.length_zip] at hi; omega
  · rw [List.getElem?_zip_eq_some] at hy
    obtain ⟨v, e1, e2⟩ := hX.getI hy.1
    obtain ⟨u, e3, e4⟩ := hY.getI hy.2
    refine ⟨⟨vs, us, v, u, ha, hb, e1, e3⟩, fun x H'' hyl => ?_⟩
    obtain ⟨T, x1, x2, rfl, nT, rfl, f1, f2⟩ := hyl
    have q1 := f1 vs ha
    have q2 := f2 us hb
    rw [e1] at q1
    rw [e3] at q2
    cases q1
    cases q2
    have sm : Same H' (upd H' T (.tup [v, u])) := fun b o e => by rw [upd_ne (ne_of_none e nT)]; exact e
    exact ⟨sm, .tup (by show 2 ≤ sizeLine; decide) (.of upd_same) (.cons (e2.mono (.of_same sm)) (.cons (e4.mono (.of_same sm)) .nil))⟩
end
end TC

namespace TC
open PySem PySem.Spec PyProof.Rows L2
open Py (enc)

/-! ### for, while -/
section
variable {S : Type} {m : Type → Type} [Monad m] [MR m S] {δ ρ β : Type}
def foldM' (f : δ → β → m δ) : δ → List β → m δ
  | d, [] => pure d
  | d, x :: xs => f d x >>= fun d' => foldM' f d' xs
/-- a loop that may return -/
def foldF (f : δ → β → m (Fl δ ρ)) : δ → List β → m (Fl δ ρ)
  | d, [] => pure (.nx d)
  | d, x :: xs => f d x >>= fun r => match r with
    | .nx d' => foldF f d' xs
    | .rt x => pure (.rt x)
/-- what follows such a loop -/
def flE (k : δ → m ρ) : Fl δ ρ → m ρ
  | .nx d => k d
  | .rt x => pure x
def whileM (c : δ → m Bool) (b : δ → m δ) : Nat → δ → m δ
  | 0, _ => MR.lift none
  | n + 1, d => c d >>= fun t => if t = true then b d >>= fun d' => whileM c b n d' else pure d
def whileF (c : δ → m Bool) (b : δ → m (Fl δ ρ)) : Nat → δ → m (Fl δ ρ)
  | 0, _ => MR.lift none
  | n + 1, d => c d >>= fun t => if t = true then b d >>= fun r => match r with
    | .nx d' => whileF c b n d'
    | .rt x => pure (.rt x)
    else pure (.nx d)
end
section
variable {S : Type} {m : Type → Type} [Monad m] [MR m S] {γ δ τ ρ α β : Type} [Py α] [Py β] [Py ρ]
variable {X : Cx} {W : Wd S} {H0 : Hp} {ss : List (SK γ)} {e a b c tg iter : Expr} {st : Stmt} {rest body : List Stmt} {pos : Pos}
abbrev loopS (ups : List (Nat × (β → PyData))) (ssL : List (SK (γ × δ))) : List (SK ((γ × δ) × β)) := setK (ups.map fun u => (u.1, fun g' : (γ × δ) × β => u.2 g'.2)) (ssL.map (SK.cm Prod.fst))
theorem upsmap {ε : Type} {ups : List (Nat × (β → PyData))} {h : ε → β} : (ups.map fun u => (u.1, fun g' : ε => u.2 (h g'))).map (·.1) = ups.map (·.1) := by rw [List.map_map]; rfl
theorem S_forF (init : γ → δ) {ssL : List (SK (γ × δ))} {ups : List (Nat × (β → PyData))} {fi : γ → m (List β)} {fb : (γ × δ) × β → m (Fl δ ρ)} {fr : γ × δ → m ρ} (le : LeS (fun g => (g, init g)) ssL ss)
    (hi : IV X W H0 ss tg iter fi) (ht : TJ X tg ups) (hb : BJ X W H0 (loopS ups ssL) body fb (fun g' => NdF X W H0 ssL ρ g'.1.1))
    (hr : BJ X W H0 ssL rest fr (fun _ => NdR X W H0 ρ))
    (hc : X.calm = true) (hp : PassesOwn (model X.prog X.w) X.A X.env X.xe) (hs : ∀ x, foldedSetIterable iter X.env x = pure x) :
    BJ X W H0 ss (.For tg iter body [] pos :: rest) (fun g => fi g >>= fun xs => foldF (fun d y => fb ((g, d), y)) (init g) xs >>= flE (fun d => fr (g, d))) (fun _ => NdR X W H0 ρ) := fun g s t s' rn σ H hR hW D nd => by
  obtain ⟨xs, s1, e0, rn⟩ := run_bind_some rn
  refine wSs.of (pss_cons (ps_for hp hc (piW tg iter) (pgW tg) (pssW body) hs) (pssW rest)) (hi g s xs s1 e0 σ H hR hW _ fun J H1 g1 w1 wk => ?_)
  obtain ⟨hlen, wk⟩ := wk
  refine ⟨fun i mm σ' H' => mm = xs.length - i ∧ i ≤ xs.length ∧ ∃ d s2, MR.run (foldF (fun d y => fb ((g, d), y)) d (xs.drop i) >>= flE (fun d => fr (g, d))) s2 = some (t, s') ∧ W.WI s2 H' ∧ Rr X.K W.Av H0 ssL (g, d) σ' H' ∧ Tr W.Av (Own ss σ) H1 (Own ssL σ') H', ⟨_, rfl, Nat.zero_le _, init g, s1, rn, w1, (Rr.le (π := fun g => (g, init g)) le (hR.st g1)), ⟨.refl _ _, fun a z => .inl (le.own z)⟩⟩, ?_⟩
  rintro i mm σ' H' ⟨rfl, hile, d, s2, h2, w2, r2, t2⟩
  by_cases hlt : i < xs.length
  · obtain ⟨hgo, hyl⟩ := (wk H' t2.g).2 i xs[i] (List.getElem?_eq_getElem hlt)
    refine .inr ⟨hgo, _, fun σ3 H3 h => ⟨xs.length - (i + 1), by omega, ⟨rfl, hlt, h⟩⟩, fun x H'' y => ?_⟩
    obtain ⟨sm, p⟩ := hyl x H'' y
    have w3 : W.WI s2 H'' := W.keep _ _ _ w2 fun a o _ z => sm a o z
    refine ht x xs[i] σ' H'' p _ fun vs hv => ?_
    have r3 := ((r2.st (.of_same sm)).cm (Prod.fst : (γ × δ) × β → γ × δ) (g' := ((g, d), xs[i])) rfl)
    have hv' : RpAll X.K (fun _ => True) H'' vs ((ups.map fun u => (u.1, fun g' : (γ × δ) × β => u.2 g'.2)).map fun u => u.2 ((g, d), xs[i])) := by rw [List.map_map]; exact hv
    obtain ⟨r4, o4⟩ := Rr.setK hv' r3
    rw [upsmap] at r4 o4
    rw [List.drop_eq_getElem_cons hlt] at h2
    unfold foldF at h2
    obtain ⟨r5, s5, h5, h6⟩ := run_bind_some h2
    obtain ⟨r6, s6, h7, h8⟩ := run_bind_some h5
    refine hb ((g, d), xs[i]) s2 r6 s6 h7 _ H'' r4 w3 _ ?_
    cases r6 with
    | nx d' =>
      refine fun σ3 H3 t3 w4 r7 => ⟨d', s6, ?_, w4, r7, t2.trans ((Tr.of_gr (gr.of_same sm)).trans (⟨t3.g.mono fun a z => z.imp id fun z => Own.cm (o4 a z), fun a z => (t3.own a z).imp (fun z => Own.cm (o4 a z)) id⟩))⟩
      rw [MR.run_bind, h8]
      exact h6
    | rt x =>
      obtain ⟨rfl, rfl⟩ := run_pure_some h8
      obtain ⟨rfl, rfl⟩ := run_pure_some h6
      exact nd
  · have e : i = xs.length := by omega
    subst e
    rw [List.drop_length] at h2
    unfold foldF at h2
    obtain ⟨r5, s5, h5, h6⟩ := run_bind_some h2
    obtain ⟨rfl, rfl⟩ := run_pure_some h5
    exact .inl ⟨(wk H' t2.g).1 _ (Nat.le_refl _), hr (g, d) s2 t s' h6 σ' H' r2 w2 D nd⟩
theorem S_for (init : γ → δ) {ssL : List (SK (γ × δ))} {ups : List (Nat × (β → PyData))} {fi : γ → m (List β)} {fb : (γ × δ) × β → m δ} (le : LeS (fun g => (g, init g)) ssL ss)
    (hi : IV X W H0 ss tg iter fi) (ht : TJ X tg ups) (hb : BJ X W H0 (loopS ups ssL) body fb (fun g' => NdN X W H0 ssL g'.1.1))
    (hc : X.calm = true) (hp : PassesOwn (model X.prog X.w) X.A X.env X.xe) (hs : ∀ x, foldedSetIterable iter X.env x = pure x) :
    SN X W H0 ss (.For tg iter body [] pos) ssL (fun g => fi g >>= fun xs => foldM' (fun d y => fb ((g, d), y)) (init g) xs) := fun g s t s' rn σ H hR hW D nd => by
  obtain ⟨xs, s1, e0, rn⟩ := run_bind_some rn
  refine wS.of (ps_for hp hc (piW tg iter) (pgW tg) (pssW body) hs) (hi g s xs s1 e0 σ H hR hW _ fun J H1 g1 w1 wk => ?_)
  obtain ⟨hlen, wk⟩ := wk
  refine ⟨fun i mm σ' H' => mm = xs.length - i ∧ i ≤ xs.length ∧ ∃ d s2, MR.run (foldM' (fun d y => fb ((g, d), y)) d (xs.drop i)) s2 = some (t, s') ∧ W.WI s2 H' ∧ Rr X.K W.Av H0 ssL (g, d) σ' H' ∧ Tr W.Av (Own ss σ) H1 (Own ssL σ') H', ⟨_, rfl, Nat.zero_le _, init g, s1, rn, w1, (Rr.le (π := fun g => (g, init g)) le (hR.st g1)), ⟨.refl _ _, fun a z => .inl (le.own z)⟩⟩, ?_⟩
  rintro i mm σ' H' ⟨rfl, hile, d, s2, h2, w2, r2, t2⟩
  by_cases hlt : i < xs.length
  · obtain ⟨hgo, hyl⟩ := (wk H' t2.g).2 i xs[i] (List.getElem?_eq_getElem hlt)
    refine .inr ⟨hgo, _, fun σ3 H3 h => ⟨xs.length - (i + 1), by omega, ⟨rfl, hlt, h⟩⟩, fun x H'' y => ?_⟩
    obtain ⟨sm, p⟩ := hyl x H'' y
    have w3 : W.WI s2 H'' := W.keep _ _ _ w2 fun a o _ z => sm a o z
    refine ht x xs[i] σ' H'' p _ fun vs hv => ?_
    have r3 := ((r2.st (.of_same sm)).cm (Prod.fst : (γ × δ) × β → γ × δ) (g' := ((g, d), xs[i])) rfl)
    have hv' : RpAll X.K (fun _ => True) H'' vs ((ups.map fun u => (u.1, fun g' : (γ × δ) × β => u.2 g'.2)).map fun u => u.2 ((g, d), xs[i])) := by rw [List.map_map]; exact hv
    obtain ⟨r4, o4⟩ := Rr.setK hv' r3
    rw [upsmap] at r4 o4
    rw [List.drop_eq_getElem_cons hlt] at h2
    unfold foldM' at h2
    obtain ⟨r5, s5, h5, h6⟩ := run_bind_some h2
    refine hb ((g, d), xs[i]) s2 r5 s5 h5 _ H'' r4 w3 _ ?_
    exact fun σ3 H3 t3 w4 r7 => ⟨r5, s5, h6, w4, r7, t2.trans ((Tr.of_gr (gr.of_same sm)).trans (⟨t3.g.mono fun a z => z.imp id fun z => Own.cm (o4 a z), fun a z => (t3.own a z).imp (fun z => Own.cm (o4 a z)) id⟩))⟩
  · have e : i = xs.length := by omega
    subst e
    rw [List.drop_length] at h2
    unfold foldM' at h2
    obtain ⟨rfl, rfl⟩ := run_pure_some h2
    exact .inl ⟨(wk H' t2.g).1 _ (Nat.le_refl _), nd σ' H' ((Tr.of_gr g1).trans t2) w2 r2⟩
theorem S_while (init : γ → δ) (n : Nat) {ssL : List (SK (γ × δ))} {fc : γ × δ → m Bool} {fb : γ × δ → m δ} (le : LeS (fun g => (g, init g)) ssL ss)
    (ht : TV X W (Rr X.K W.Av H0 ssL) c fc) (hb : BJ X W H0 ssL body fb (fun g' => NdN X W H0 ssL g'.1))
    (hp : PassesOwn (model X.prog X.w) X.A X.env X.xe) :
    SN X W H0 ss (.While c body [] pos) ssL (fun g => whileM (fun d => fc (g, d)) (fun d => fb (g, d)) n (init g)) := fun g s t s' rn σ H hR hW D nd => by
  refine wS.of (ps_while hp (ptW c) (pssW body)) ?_
  refine ⟨fun k σ' H' => ∃ d s2, MR.run (whileM (fun d => fc (g, d)) (fun d => fb (g, d)) k d) s2 = some (t, s') ∧ W.WI s2 H' ∧ Rr X.K W.Av H0 ssL (g, d) σ' H' ∧ Tr W.Av (Own ss σ) H (Own ssL σ') H', ⟨n, init g, s, rn, hW, (Rr.le (π := fun g => (g, init g)) le hR), ⟨.refl _ _, fun a z => .inl (le.own z)⟩⟩, ?_⟩
  rintro k σ' H' ⟨d, s2, h2, w2, r2, t2⟩
  cases k with
  | zero =>
    unfold whileM at h2
    obtain ⟨h3, _⟩ := run_lift_some h2
    cases h3
  | succ k =>
    unfold whileM at h2
    obtain ⟨b, s3, h3, h4⟩ := run_bind_some h2
    refine ht (g, d) s2 b s3 h3 σ' H' r2 w2 _ fun H1 g1 w3 => ?_
    cases b with
    | true =>
      simp only [if_true] at h4 ⊢
      obtain ⟨d', s5, h5, h6⟩ := run_bind_some h4
      refine ⟨_, fun σ3 H3 h => ⟨k, Nat.lt_succ_self k, h⟩, ?_⟩
      refine hb (g, d) s3 d' s5 h5 σ' H1 (r2.st g1) w3 _ ?_
      exact fun σ3 H3 t3 w4 r7 => ⟨d', s5, h6, w4, r7, t2.trans ((Tr.of_gr g1).trans t3)⟩
    | false =>
      simp only [Bool.false_eq_true, if_false] at h4 ⊢
      obtain ⟨rfl, rfl⟩ := run_pure_some h4
      exact nd σ' H1 (t2.trans (.of_gr g1)) w3 (r2.st g1)
theorem S_whileF (init : γ → δ) (n : Nat) {ssL : List (SK (γ × δ))} {fc : γ × δ → m Bool} {fb : γ × δ → m (Fl δ ρ)} {fr : γ × δ → m ρ} (le : LeS (fun g => (g, init g)) ssL ss)
    (ht : TV X W (Rr X.K W.Av H0 ssL) c fc) (hb : BJ X W H0 ssL body fb (fun g' => NdF X W H0 ssL ρ g'.1)) (hr : BJ X W H0 ssL rest fr (fun _ => NdR X W H0 ρ))
    (hp : PassesOwn (model X.prog X.w) X.A X.env X.xe) :
    BJ X W H0 ss (.While c body [] pos :: rest) (fun g => whileF (fun d => fc (g, d)) (fun d => fb (g, d)) n (init g) >>= flE (fun d => fr (g, d))) (fun _ => NdR X W H0 ρ) := fun g s t s' rn σ H hR hW D nd => by
  refine wSs.of (pss_cons (ps_while hp (ptW c) (pssW body)) (pssW rest)) ?_
  refine ⟨fun k σ' H' => ∃ d s2, MR.run (whileF (fun d => fc (g, d)) (fun d => fb (g, d)) k d >>= flE (fun d => fr (g, d))) s2 = some (t, s') ∧ W.WI s2 H' ∧ Rr X.K W.Av H0 ssL (g, d) σ' H' ∧ Tr W.Av (Own ss σ) H (Own ssL σ') H', ⟨n, init g, s, rn, hW, (Rr.le (π := fun g => (g, init g)) le hR), ⟨.refl _ _, fun a z => .inl (le.own z)⟩⟩, ?_⟩
  rintro k σ' H' ⟨d, s2, h2, w2, r2, t2⟩
  obtain ⟨r0, s0, h1, h0⟩ := run_bind_some h2
  cases k with
  | zero =>
    unfold whileF at h1
    obtain ⟨h3, _⟩ := run_lift_some h1
    cases h3
  | succ k =>
    unfold whileF at h1
    obtain ⟨b, s3, h3, h4⟩ := run_bind_some h1
    refine ht (g, d) s2 b s3 h3 σ' H' r2 w2 _ fun H1 g1 w3 => ?_
    cases b with
    | true =>
      simp only [if_true] at h4 ⊢
      obtain ⟨r6, s5, h5, h6⟩ := run_bind_some h4
      refine ⟨_, fun σ3 H3 h => ⟨k, Nat.lt_succ_self k, h⟩, ?_⟩
      refine hb (g, d) s3 r6 s5 h5 σ' H1 (r2.st g1) w3 _ ?_
      cases r6 with
      | nx d' =>
        refine fun σ3 H3 t3 w4 r7 => ⟨d', s5, ?_, w4, r7, t2.trans ((Tr.of_gr g1).trans t3)⟩
        rw [MR.run_bind, h6]
        exact h0
      | rt x =>
        obtain ⟨rfl, rfl⟩ := run_pure_some h6
        obtain ⟨rfl, rfl⟩ := run_pure_some h0
        exact nd
    | false =>
      simp only [Bool.false_eq_true, if_false] at h4 ⊢
      obtain ⟨rfl, rfl⟩ := run_pure_some h4
      exact hr (g, d) s3 t s' h0 σ' H1 (r2.st g1) w3 D nd
end

/-! ### comprehensions -/
def wipeK {γ : Type} (ss : List (SK γ)) : List Nat → List (SK γ)
  | [] => ss
  | v :: vs => (wipeK ss vs).set v .u
section
variable {K : PySem.W.Frag} {Av : Addr → Prop} {H0 H : Hp} {γ : Type} {ss : List (SK γ)} {g : γ} {σ : Sg}
theorem Own.setu {i : Nat} {o : Option V} {a : Addr} (h : Own (ss.set i .u) (σ.set i o) a) : Own ss σ a := by
  obtain ⟨j, e, h1, h2⟩ := h
  by_cases hj : i = j
  · subst hj
    rw [List.getElem?_set_self'] at h1
    cases q1 : ss[i]? with
    | none => rw [q1] at h1; cases h1
    | some _ => rw [q1] at h1; cases h1
  · rw [List.getElem?_set_ne hj] at h1 h2
    exact ⟨j, e, h1, h2⟩
theorem Rr.setu (r : Rr K Av H0 ss g σ H) (i : Nat) (o : Option V) : Rr K Av H0 (ss.set i .u) g (σ.set i o) H := by
  refine ⟨r.base, by rw [List.length_set, List.length_set]; exact r.len, fun j k o' h1 h2 => ?_, fun j l e f a h1 h2 h3 h4 => ?_⟩
  · by_cases hj : i = j
    · subst hj
      rw [List.getElem?_set_self'] at h1
      cases q1 : ss[i]? with
      | none => rw [q1] at h1; cases h1
      | some _ => rw [q1] at h1; cases h1; trivial
    · rw [List.getElem?_set_ne hj] at h1 h2
      have h := r.slot j k o' h1 h2
      cases k with
      | u => trivial
      | k w => exact h
      | v e =>
        obtain ⟨w, e, p⟩ := h
        exact ⟨w, e, p.weak fun a z => z.imp id Own.setu⟩
      | o e =>
        obtain ⟨a, e, p, q⟩ := h
        exact ⟨a, e, p.chg fun b z _ => z.imp id Own.setu, q⟩
  · have hj : i ≠ j := fun c => by
      subst c
      rw [List.getElem?_set_self'] at h1
      cases q1 : ss[i]? with
      | none => rw [q1] at h1; cases h1
      | some _ => rw [q1] at h1; cases h1
    have hl : i ≠ l := fun c => by
      subst c
      rw [List.getElem?_set_self'] at h2
      cases q1 : ss[i]? with
      | none => rw [q1] at h2; cases h2
      | some _ => rw [q1] at h2; cases h2
    rw [List.getElem?_set_ne hj] at h1 h3
    rw [List.getElem?_set_ne hl] at h2 h4
    exact r.one j l e f a h1 h2 h3 h4
theorem Rr.wipe (r : Rr K Av H0 ss g σ H) : ∀ vs : List Nat, Rr K Av H0 (wipeK ss vs) g (wipe σ vs) H
  | [] => r
  | v :: vs => (Rr.wipe r vs).setu v none
theorem wipe_get (σ : Sg) : ∀ (vs : List Nat) (j : Nat), (wipe σ vs)[j]? = if j ∈ vs then (σ[j]?).map (fun _ => none) else σ[j]?
  | [], j => by simp [wipe]
  | v :: vs, j => by
    unfold wipe
    rw [List.getElem?_set]
    have ih := wipe_get σ vs
    by_cases h : v = j
    · subst h
      rw [if_pos rfl, wipe_length, if_pos List.mem_cons_self]
      by_cases hl : v < σ.length
      · rw [if_pos hl, List.getElem?_eq_getElem hl]; rfl
      · rw [if_neg hl, List.getElem?_eq_none (by omega)]; rfl
    · rw [if_neg h, ih j]
      have : (j ∈ v :: vs) ↔ j ∈ vs := by
        rw [List.mem_cons]
        exact ⟨fun z => z.elim (fun e => absurd e.symm h) id, .inr⟩
      simp only [this]
theorem setAll_get : ∀ {l : List (Nat × V)} {σ : Sg} {j : Nat}, j ∉ l.map (·.1) → (setAll l σ)[j]? = σ[j]?
  | [], _, _, _ => rfl
  | (i, v) :: r, σ, j, h => by
    simp only [List.map_cons, List.mem_cons, not_or] at h
    show (setAll r (σ.set i (some v)))[j]? = _
    rw [setAll_get h.2, List.getElem?_set_ne (Ne.symm h.1)]
theorem setAll_length : ∀ {l : List (Nat × V)} {σ : Sg}, (setAll l σ).length = σ.length
  | [], _ => rfl
  | (i, v) :: r, σ => by
    show (setAll r (σ.set i (some v))).length = _
    rw [setAll_length, List.length_set]
theorem wipe_setAll {l : List (Nat × V)} {vs : List Nat} (h : ∀ i ∈ l.map (·.1), i ∈ vs) : L2.wipe (setAll l (L2.wipe σ vs)) vs = L2.wipe σ vs := by
  apply List.ext_getElem?
  intro j
  rw [wipe_get, wipe_get]
  by_cases hj : j ∈ vs
  · rw [if_pos hj, if_pos hj]
    have hl : (setAll l (L2.wipe σ vs)).length = σ.length := by rw [setAll_length, wipe_length]
    by_cases q : j < σ.length
    · rw [List.getElem?_eq_getElem (by rw [hl]; exact q), List.getElem?_eq_getElem q]; rfl
    · rw [List.getElem?_eq_none (by rw [hl]; omega), List.getElem?_eq_none (by omega)]
  · rw [if_neg hj, if_neg hj, setAll_get (fun z => hj (h j z)), wipe_get, if_neg hj]
end
section
variable {S : Type} {m : Type → Type} [Monad m] [MR m S] {γ δ τ ρ α β : Type}
def mapL (f : β → m α) : List β → m (List α)
  | [] => pure []
  | x :: xs => f x >>= fun y => mapL f xs >>= fun ys => pure (y :: ys)
/-- .. of those that pass -/
def selL (t : β → m Bool) (f : β → m α) : List β → m (List α)
  | [] => pure []
  | x :: xs => t x >>= fun b => if b = true then f x >>= fun y => selL t f xs >>= fun ys => pure (y :: ys) else selL t f xs
variable [Py α] [Py β] {X : Cx} {W : Wd S} {H0 : Hp} {ss : List (SK γ)} {e a b c tg iter elt : Expr} {pos : Pos}
/-- a comprehension's block -/
abbrev Bk (X : Cx) (scope : Scope) (s : Shared) (H : Hp) (C : Addr) (cl : List (Str × Addr)) (fp : List Addr) : Cx := X.blk s H scope (compEnvC scope cl C X.env) fp
abbrev bkS (ups : List (Nat × (β → PyData))) (own : List (Str × Nat)) (ss : List (SK γ)) : List (SK (γ × β)) := setK (ups.map fun u => (u.1, fun g' : γ × β => u.2 g'.2)) ((wipeK ss (own.map (·.2))).map (SK.cm Prod.fst))
def gA (X : Cx) (scope : Scope) (tg : Expr) : TG := fun v σ H Q => ∀ s H' C cl fp, wG (Bk X scope s H' C cl fp) tg v σ H Q
def eA (X : Cx) (scope : Scope) (e : Expr) : TE := fun σ H Q => ∀ s H' C cl fp, wE (Bk X scope s H' C cl fp) e σ H Q
def tA (X : Cx) (scope : Scope) (e : Expr) : TT := fun σ H Q => ∀ s H' C cl fp, wT (Bk X scope s H' C cl fp) e σ H Q
theorem pgA {scope : Scope} (s : Shared) (H : Hp) (C : Addr) (cl : List (Str × Addr)) (fp : List Addr) : PG (Bk X scope s H C cl fp) tg (gA X scope tg) := ⟨fun pins s' _ _ _ u _ I r h => h s H C cl fp pins s' u I r⟩
theorem peA {scope : Scope} (s : Shared) (H : Hp) (C : Addr) (cl : List (Str × Addr)) (fp : List Addr) : PE (Bk X scope s H C cl fp) e (eA X scope e) := ⟨fun pins s' _ _ _ I h => h s H C cl fp pins s' I⟩
theorem ptA {scope : Scope} (s : Shared) (H : Hp) (C : Addr) (cl : List (Str × Addr)) (fp : List Addr) : PT (Bk X scope s H C cl fp) e (tA X scope e) := ⟨fun pins s' _ _ _ I h => h s H C cl fp pins s' I⟩
/-- the turns of a comprehension with a test -/
theorem lc_read {scope : Scope} {own : List (Str × Nat)} {ups : List (Nat × (β → PyData))} {fi : γ → m (List β)} {fc : γ × β → m Bool} {fe : γ × β → m α} {tt : TT} [Imm α]
    (hi : IV X W H0 ss tg iter fi) (ht : ∀ s H C cl fp, TJ (Bk X scope s H C cl fp) tg ups) (hv : ∀ i ∈ ups.map (·.1), i ∈ own.map (·.2))
    (hc : ∀ g s x s', MR.run (fc g) s = some (x, s') → ∀ σ H, Rr X.K W.Av H0 (bkS ups own ss) g σ H → W.WI s H → ∀ Q : Bool → Hp → Prop, (∀ H', gr W.Av H H' → W.WI s' H' → Q x H') → tt σ H Q)
    (he : ∀ s H C cl fp, EV (Bk X scope s H C cl fp) W (Rr X.K W.Av H0 (bkS ups own ss)) elt fe)
    {g : γ} {s s' : S} {ys : List α} (rn : MR.run (fi g >>= fun xs => selL (fun y => fc (g, y)) (fun y => fe (g, y)) xs) s = some (ys, s')) {σ : Sg} {H : Hp} (hR : Rr X.K W.Av H0 ss g σ H) (hW : W.WI s H) {Q : VK}
    (q : ∀ v H', gr W.Av H H' → W.WI s' H' → Rp X.K (fun a => H a ≠ none) H' v (enc (Ls.mk ys)) → Q v H') : tLc (wI X tg iter) (gA X scope tg) tt (eA X scope elt) (own.map (·.2)) σ H Q := by
  obtain ⟨xs, s1, e0, rn⟩ := run_bind_some rn
  refine hi g s xs s1 e0 σ H hR hW _ fun J H1 g1 w1 wk D hD => ?_
  obtain ⟨hlen, wk⟩ := wk
  have nA : ¬ W.Av D := fun z => W.old s1 H1 D w1 z hD
  have nD : H D = none := by
    cases q : H D with
    | none => rfl
    | some o => exact absurd hD (g1.ex D (by rw [q]; simp))
  have n0 : H0 D = none := by
    cases q : H0 D with
    | none => rfl
    | some o => exact absurd nD (hR.base.ex D (by rw [q]; simp))
  have toA : ∀ {ε : Type} {ss : List (SK ε)} {g : ε} {σ H}, Rr X.K (fun a => W.Av a ∨ a = D) H0 ss g σ H → Rr X.K W.Av H0 ss g σ H := fun r => r.av (fun a z => .inl (.inl z)) (fun a z => by
    rcases z with z | rfl
    · exact .inl z
    · exact .inr n0)
  refine ⟨fun i mm H' => mm = xs.length - i ∧ i ≤ xs.length ∧ ∃ ys1 ys2 s2 acc, MR.run (selL (fun y => fc (g, y)) (fun y => fe (g, y)) (xs.drop i)) s2 = some (ys2, s') ∧ ys = ys1 ++ ys2 ∧ ys1.length ≤ i ∧ W.WI s2 H' ∧
      Rr X.K (fun a => W.Av a ∨ a = D) H0 (wipeK ss (own.map (·.2))) g (L2.wipe σ (own.map (·.2))) H' ∧ gr W.Av H1 H' ∧ H' D = some (.lst acc) ∧ RpAll X.K (fun _ => True) H' acc (ys1.map enc), ⟨_, rfl, Nat.zero_le _, [], ys, s1, [], rn, rfl, Nat.le_refl _, W.new w1 hD, ?_, .new hD, upd_same, .nil⟩, ?_⟩
  · refine Rr.wipe ?_ _
    exact ((hR.st g1).av (fun a z => z.imp id fun e => by rw [e]; exact hD) (fun a z => .inl (.inl z))).st (.new hD)
  rintro i mm H' ⟨rfl, hile, ys1, ys2, s2, acc, h2, hys, hy1, w2, r2, g2, hacc, hrp⟩
  have hal : acc.length = ys1.length := by have := hrp.length; rw [List.length_map] at this; exact this
  by_cases hlt : i < xs.length
  · obtain ⟨hgo, hyl⟩ := (wk H' (g2.mono fun _ z => .inl z)).2 i xs[i] (List.getElem?_eq_getElem hlt)
    refine .inr ⟨hgo, _, fun H3 h => ⟨xs.length - (i + 1), by omega, ⟨rfl, hlt, h⟩⟩, fun x H'' y => ?_⟩
    obtain ⟨sm, p⟩ := hyl x H'' y
    have w3 : W.WI s2 H'' := W.keep _ _ _ w2 fun a o _ z => sm a o z
    intro s8 H8 C8 cl8 fp8
    refine ht s8 H8 C8 cl8 fp8 x xs[i] _ H'' p _ fun vs hv' => ?_
    refine ⟨wipe_setAll fun j hj => hv j ?_, ?_⟩
    · obtain ⟨w, hw, rfl⟩ := List.mem_map.mp hj
      exact (List.of_mem_zip (a := w.1) (b := w.2) hw).1
    have r3 := ((r2.st (.of_same sm)).cm (Prod.fst : γ × β → γ) (g' := (g, xs[i])) rfl)
    have hv2 : RpAll X.K (fun _ => True) H'' vs ((ups.map fun u => (u.1, fun g' : γ × β => u.2 g'.2)).map fun u => u.2 (g, xs[i])) := by rw [List.map_map]; exact hv'
    obtain ⟨r4, o4⟩ := Rr.setK hv2 r3
    rw [upsmap] at r4
    rw [List.drop_eq_getElem_cons hlt] at h2
    unfold selL at h2
    obtain ⟨b, s5, h5, h6⟩ := run_bind_some h2
    refine hc (g, xs[i]) s2 b s5 h5 _ H'' (toA r4) w3 _ fun H3 g3 w4 => ?_
    cases b with
    | false =>
      simp only [Bool.false_eq_true, if_false] at h6 ⊢
      have g5 : gr W.Av H' H3 := (gr.of_same sm).trans g3
      refine ⟨ys1, ys2, s5, acc, h6, hys, by omega, w4, r2.st (g5.mono fun _ z => .inl z), g2.trans g5, g5.immO hacc nA, hrp.mono (g5.mono fun _ _ => trivial)⟩
    | true =>
      simp only [if_true] at h6 ⊢
      obtain ⟨y1, s6, h7, h8⟩ := run_bind_some h6
      obtain ⟨y2, s7, h9, h10⟩ := run_bind_some h8
      obtain ⟨rfl, rfl⟩ := run_pure_some h10
      intro s9 H9 C9 cl9 fp9
      refine he s9 H9 C9 cl9 fp9 (g, xs[i]) s5 y1 s6 h7 _ H3 ((toA r4).st g3) w4 _ fun v H4 g4 w5 p4 => ?_
      have g5 : gr W.Av H' H4 := ((gr.of_same sm).trans g3).trans g4
      have hacc4 : H4 D = some (.lst acc) := g5.immO hacc nA
      have gD : gr (fun a => W.Av a ∨ a = D) H4 (upd H4 D (.lst (acc ++ [v]))) := ⟨fun a o e z => by
        by_cases ha : a = D
        · subst ha
          rw [hacc4] at e
          cases e
          exact absurd (z (.inr rfl)) (fun z => z)
        · rw [upd_ne ha]; exact e, fun a h => by
        by_cases ha : a = D
        · subst ha; rw [upd_same]; simp
        · rw [upd_ne ha]; exact h⟩
      have g6 : gr (fun a => W.Av a ∨ a = D) H' (upd H4 D (.lst (acc ++ [v]))) := (g5.mono fun _ z => .inl z).trans gD
      have p4 : Rp X.K W.Av H4 v (enc y1) := p4
      refine ⟨acc, hacc4, by omega, ys1 ++ [y1], y2, s6, acc ++ [v], h9, by rw [hys]; simp, by simp; omega, ?_, r2.st g6, ⟨fun a o e z => ?_, fun a h => g6.ex a (g2.ex a h)⟩, upd_same, ?_⟩
      · exact W.keep _ _ _ w5 fun a o z e => by rw [upd_ne (show a ≠ D from fun c => by subst c; exact nA z)]; exact e
      · rw [upd_ne (ne_of_none e hD)]
        exact g5.kp a o (g2.kp a o e z) z
      · rw [List.map_append]
        exact (hrp.mono (g6.mono fun _ _ => trivial)).append (.cons ((p4.any (Imm.imm y1)).mono (gD.mono fun _ _ => trivial)) .nil)
  · have e : i = xs.length := by omega
    subst e
    rw [List.drop_length] at h2
    unfold selL at h2
    obtain ⟨rfl, rfl⟩ := run_pure_some h2
    rw [List.append_nil] at hys
    subst hys
    exact .inl ⟨(wk H' (g2.mono fun _ z => .inl z)).1 _ (Nat.le_refl _), q _ H' (g1.trans g2) w2 (.obj (fun z => z nD) (.lst (by omega) hacc (hrp.any (immDs_map ys))))⟩
theorem selL_true {f : β → m α} {xs : List β} : ∀ {s : S}, MR.run (selL (fun _ => (pure true : m Bool)) f xs) s = MR.run (mapL f xs) s := by
  induction xs with
  | nil => intro s; rfl
  | cons x xs ih =>
    intro s
    unfold selL mapL
    simp only [MR.run_bind, MR.run_pure, Option.bind_some, if_true]
    congr 1
    funext p
    rw [ih]
/-- [e for target in iter] -/
theorem E_lc {scope : Scope} {own : List (Str × Nat)} {ups : List (Nat × (β → PyData))} {fi : γ → m (List β)} {fe : γ × β → m α} [Imm α] (hcm : X.calm = true) (hN : X.N.Nodup) (ok : BlkOk X.N X.env.scope scope own)
    (hi : IV X W H0 ss tg iter fi) (ht : ∀ s H C cl fp, TJ (Bk X scope s H C cl fp) tg ups) (hv : ∀ i ∈ ups.map (·.1), i ∈ own.map (·.2))
    (he : ∀ s H C cl fp, EV (Bk X scope s H C cl fp) W (Rr X.K W.Av H0 (bkS ups own ss)) elt fe) (hs : ∀ x, foldedSetIterable iter X.env x = pure x) :
    EVf X W (Rr X.K W.Av H0 ss) (.ListComp elt [⟨tg, iter, [], 0⟩] scope pos) (fun g => fi g >>= fun xs => mapL (fun y => fe (g, y)) xs >>= fun ys => pure (Ls.mk ys)) := fun g s x s' rn σ H hR hW Q q => by
  refine wE.of (pe_lc hcm hN (piW tg iter) ok pgA (fun _ _ _ _ _ => pts_nil) peA hs) ?_
  obtain ⟨xs, s1, e0, rn⟩ := run_bind_some rn
  obtain ⟨ys, s2, e1, rn⟩ := run_bind_some rn
  obtain ⟨rfl, rfl⟩ := run_pure_some rn
  refine lc_read (fc := fun _ => pure true) (ys := ys) (s' := s2) hi ht hv (fun g s x s' r σ H hR hW Q q => ?_) he (by rw [MR.run_bind, e0]; exact selL_true.trans e1) hR hW q
  obtain ⟨rfl, rfl⟩ := run_pure_some r
  exact q H (.refl _ _) hW
/-- [e for target in iter if c] -/
theorem E_lcIf {scope : Scope} {own : List (Str × Nat)} {ups : List (Nat × (β → PyData))} {fi : γ → m (List β)} {fc : γ × β → m Bool} {fe : γ × β → m α} [Imm α] (hcm : X.calm = true) (hN : X.N.Nodup) (ok : BlkOk X.N X.env.scope scope own)
    (hi : IV X W H0 ss tg iter fi) (ht : ∀ s H C cl fp, TJ (Bk X scope s H C cl fp) tg ups) (hv : ∀ i ∈ ups.map (·.1), i ∈ own.map (·.2))
    (hc : ∀ s H C cl fp, TV (Bk X scope s H C cl fp) W (Rr X.K W.Av H0 (bkS ups own ss)) c fc)
    (he : ∀ s H C cl fp, EV (Bk X scope s H C cl fp) W (Rr X.K W.Av H0 (bkS ups own ss)) elt fe) (hs : ∀ x, foldedSetIterable iter X.env x = pure x) :
    EVf X W (Rr X.K W.Av H0 ss) (.ListComp elt [⟨tg, iter, [c], 0⟩] scope pos) (fun g => fi g >>= fun xs => selL (fun y => fc (g, y)) (fun y => fe (g, y)) xs >>= fun ys => pure (Ls.mk ys)) := fun g s x s' rn σ H hR hW Q q => by
  refine wE.of (pe_lc hcm hN (piW tg iter) ok pgA (fun s H C cl fp => pts_one (ptA s H C cl fp)) peA hs) ?_
  obtain ⟨xs, s1, e0, rn⟩ := run_bind_some rn
  obtain ⟨ys, s2, e1, rn⟩ := run_bind_some rn
  obtain ⟨rfl, rfl⟩ := run_pure_some rn
  exact lc_read (fc := fc) (ys := ys) (s' := s2) hi ht hv (fun g s x s' r σ H hR hW Q q => fun s8 H8 C8 cl8 fp8 => hc s8 H8 C8 cl8 fp8 g s x s' r σ H hR hW Q q) he (by rw [MR.run_bind, e0]; exact e1) hR hW q
/-- x = [..] on one line, x a local -/
theorem S_lc {x : Str} {px spos : Pos} (i : Nat) {scope : Scope} {own : List (Str × Nat)} {ups : List (Nat × (β → PyData))} {fi : γ → m (List β)} {fe : γ × β → m α} [Imm α] (hcm : X.calm = true) (hN : X.N.Nodup) (ok : BlkOk X.N X.env.scope scope own)
    (hx : X.N[i]? = some x) (hxl : X.env.scope.names.lookup x = some .local) (hsw : swapsWith (.ListComp elt [⟨tg, iter, [], 0⟩] scope pos) (some (.Name x px)) spos.line X.env = pure true)
    (hi : IV X W H0 ss tg iter fi) (ht : ∀ s H C cl fp, TJ (Bk X scope s H C cl fp) tg ups) (hv : ∀ i ∈ ups.map (·.1), i ∈ own.map (·.2))
    (he : ∀ s H C cl fp, EV (Bk X scope s H C cl fp) W (Rr X.K W.Av H0 (bkS ups own ss)) elt fe) (hs : ∀ x, foldedSetIterable iter X.env x = pure x) :
    SN X W H0 ss (.Assign [.Name x px] (.ListComp elt [⟨tg, iter, [], 0⟩] scope pos) spos) ((ss.map (SK.cm Prod.fst)).set i (.o fun g' : γ × Ls α => enc g'.2)) (fun g => fi g >>= fun xs => mapL (fun y => fe (g, y)) xs >>= fun ys => pure (Ls.mk ys)) := fun g s x s' rn σ H hR hW D nd => by
  refine wS.of (ps_setLc hcm hN hx hxl hsw (piW tg iter) ok pgA (fun _ _ _ _ _ => pts_nil) peA hs) ?_
  obtain ⟨xs, s1, e0, rn⟩ := run_bind_some rn
  obtain ⟨ys, s2, e1, rn⟩ := run_bind_some rn
  obtain ⟨rfl, rfl⟩ := run_pure_some rn
  refine lc_read (fc := fun _ => pure true) (ys := ys) (s' := s2) hi ht hv (fun g s x s' r σ H hR hW Q q => ?_) he (by rw [MR.run_bind, e0]; exact selL_true.trans e1) hR hW fun v H1 g1 w1 p => ?_
  · obtain ⟨rfl, rfl⟩ := run_pure_some r
    exact q H (.refl _ _) hW
  · obtain ⟨r, t⟩ := Rr.putO i hR hW g1 p
    exact nd _ H1 t w1 r
theorem S_lcIf {x : Str} {px spos : Pos} (i : Nat) {scope : Scope} {own : List (Str × Nat)} {ups : List (Nat × (β → PyData))} {fi : γ → m (List β)} {fc : γ × β → m Bool} {fe : γ × β → m α} [Imm α] (hcm : X.calm = true) (hN : X.N.Nodup) (ok : BlkOk X.N X.env.scope scope own)
    (hx : X.N[i]? = some x) (hxl : X.env.scope.names.lookup x = some .local) (hsw : swapsWith (.ListComp elt [⟨tg, iter, [c], 0⟩] scope pos) (some (.Name x px)) spos.line X.env = pure true)
    (hi : IV X W H0 ss tg iter fi) (ht : ∀ s H C cl fp, TJ (Bk X scope s H C cl fp) tg ups) (hv : ∀ i ∈ ups.map (·.1), i ∈ own.map (·.2))
    (hc : ∀ s H C cl fp, TV (Bk X scope s H C cl fp) W (Rr X.K W.Av H0 (bkS ups own ss)) c fc)
    (he : ∀ s H C cl fp, EV (Bk X scope s H C cl fp) W (Rr X.K W.Av H0 (bkS ups own ss)) elt fe) (hs : ∀ x, foldedSetIterable iter X.env x = pure x) :
    SN X W H0 ss (.Assign [.Name x px] (.ListComp elt [⟨tg, iter, [c], 0⟩] scope pos) spos) ((ss.map (SK.cm Prod.fst)).set i (.o fun g' : γ × Ls α => enc g'.2)) (fun g => fi g >>= fun xs => selL (fun y => fc (g, y)) (fun y => fe (g, y)) xs >>= fun ys => pure (Ls.mk ys)) := fun g s x s' rn σ H hR hW D nd => by
  refine wS.of (ps_setLc hcm hN hx hxl hsw (piW tg iter) ok pgA (fun s H C cl fp => pts_one (ptA s H C cl fp)) peA hs) ?_
  obtain ⟨xs, s1, e0, rn⟩ := run_bind_some rn
  obtain ⟨ys, s2, e1, rn⟩ := run_bind_some rn
  obtain ⟨rfl, rfl⟩ := run_pure_some rn
  exact lc_read (fc := fc) (ys := ys) (s' := s2) hi ht hv (fun g s x s' r σ H hR hW Q q => fun s8 H8 C8 cl8 fp8 => hc s8 H8 C8 cl8 fp8 g s x s' r σ H hR hW Q q) he (by rw [MR.run_bind, e0]; exact e1) hR hW fun v H1 g1 w1 p => by
    obtain ⟨r, t⟩ := Rr.putO i hR hW g1 p
    exact nd _ H1 t w1 r
end

/-! the same, with what is bound told one by one -/
section
variable {S : Type} {m : Type → Type} [Monad m] [MR m S] {γ δ τ ρ α β : Type} [Py α] [Py β] [Py ρ]
variable {X : Cx} {W : Wd S} {H0 : Hp} {ss : List (SK γ)} {e a b c tg iter elt : Expr} {st : Stmt} {rest body : List Stmt} {pos : Pos}
theorem S_forF' (init : γ → δ) {ssL : List (SK (γ × δ))} {ups : List (Nat × (β → PyData))} {fi : γ → m (List β)} {fb : γ → δ → β → m (Fl δ ρ)} {fr : γ → δ → m ρ} (le : LeS (fun g => (g, init g)) ssL ss)
    (hi : IV X W H0 ss tg iter fi) (ht : TJ X tg ups) (hb : BJ X W H0 (loopS ups ssL) body (fun g' => fb g'.1.1 g'.1.2 g'.2) (fun g' => NdF X W H0 ssL ρ g'.1.1))
    (hr : BJ X W H0 ssL rest (fun g' => fr g'.1 g'.2) (fun _ => NdR X W H0 ρ))
    (hc : X.calm = true) (hp : PassesOwn (model X.prog X.w) X.A X.env X.xe) (hs : ∀ x, foldedSetIterable iter X.env x = pure x) :
    BJ X W H0 ss (.For tg iter body [] pos :: rest) (fun g => fi g >>= fun xs => foldF (fun d y => fb g d y) (init g) xs >>= flE (fun d => fr g d)) (fun _ => NdR X W H0 ρ) := S_forF (fb := fun g' => fb g'.1.1 g'.1.2 g'.2) (fr := fun g' => fr g'.1 g'.2) init le hi ht hb hr hc hp hs
theorem S_for' (init : γ → δ) {ssL : List (SK (γ × δ))} {ups : List (Nat × (β → PyData))} {fi : γ → m (List β)} {fb : γ → δ → β → m δ} (le : LeS (fun g => (g, init g)) ssL ss)
    (hi : IV X W H0 ss tg iter fi) (ht : TJ X tg ups) (hb : BJ X W H0 (loopS ups ssL) body (fun g' => fb g'.1.1 g'.1.2 g'.2) (fun g' => NdN X W H0 ssL g'.1.1))
    (hc : X.calm = true) (hp : PassesOwn (model X.prog X.w) X.A X.env X.xe) (hs : ∀ x, foldedSetIterable iter X.env x = pure x) :
    SN X W H0 ss (.For tg iter body [] pos) ssL (fun g => fi g >>= fun xs => foldM' (fun d y => fb g d y) (init g) xs) := S_for (fb := fun g' => fb g'.1.1 g'.1.2 g'.2) init le hi ht hb hc hp hs
theorem S_while' (init : γ → δ) (n : Nat) {ssL : List (SK (γ × δ))} {fc : γ → δ → m Bool} {fb : γ → δ → m δ} (le : LeS (fun g => (g, init g)) ssL ss)
    (ht : TV X W (Rr X.K W.Av H0 ssL) c (fun g' => fc g'.1 g'.2)) (hb : BJ X W H0 ssL body (fun g' => fb g'.1 g'.2) (fun g' => NdN X W H0 ssL g'.1))
    (hp : PassesOwn (model X.prog X.w) X.A X.env X.xe) :
    SN X W H0 ss (.While c body [] pos) ssL (fun g => whileM (fun d => fc g d) (fun d => fb g d) n (init g)) := S_while (fc := fun g' => fc g'.1 g'.2) (fb := fun g' => fb g'.1 g'.2) init n le ht hb hp
theorem S_whileF' (init : γ → δ) (n : Nat) {ssL : List (SK (γ × δ))} {fc : γ → δ → m Bool} {fb : γ → δ → m (Fl δ ρ)} {fr : γ → δ → m ρ} (le : LeS (fun g => (g, init g)) ssL ss)
    (ht : TV X W (Rr X.K W.Av H0 ssL) c (fun g' => fc g'.1 g'.2)) (hb : BJ X W H0 ssL body (fun g' => fb g'.1 g'.2) (fun g' => NdF X W H0 ssL ρ g'.1)) (hr : BJ X W H0 ssL rest (fun g' => fr g'.1 g'.2) (fun _ => NdR X W H0 ρ))
    (hp : PassesOwn (model X.prog X.w) X.A X.env X.xe) :
    BJ X W H0 ss (.While c body [] pos :: rest) (fun g => whileF (fun d => fc g d) (fun d => fb g d) n (init g) >>= flE (fun d => fr g d)) (fun _ => NdR X W H0 ρ) := S_whileF (fc := fun g' => fc g'.1 g'.2) (fb := fun g' => fb g'.1 g'.2) (fr := fun g' => fr g'.1 g'.2) init n le ht hb hr hp
theorem E_lc' {scope : Scope} (own : List (Str × Nat)) {ups : List (Nat × (β → PyData))} {fi : γ → m (List β)} {fe : γ → β → m α} [Imm α] (hcm : X.calm = true) (hN : X.N.Nodup) (ok : BlkOk X.N X.env.scope scope own)
    (hi : IV X W H0 ss tg iter fi) (ht : ∀ s H C cl fp, TJ (Bk X scope s H C cl fp) tg ups) (hv : ∀ i ∈ ups.map (·.1), i ∈ own.map (·.2))
    (he : ∀ s H C cl fp, EV (Bk X scope s H C cl fp) W (Rr X.K W.Av H0 (bkS ups own ss)) elt (fun g' => fe g'.1 g'.2)) (hs : ∀ x, foldedSetIterable iter X.env x = pure x) :
    EVf X W (Rr X.K W.Av H0 ss) (.ListComp elt [⟨tg, iter, [], 0⟩] scope pos) (fun g => fi g >>= fun xs => mapL (fun y => fe g y) xs >>= fun ys => pure (Ls.mk ys)) := E_lc (fe := fun g' => fe g'.1 g'.2) hcm hN ok hi ht hv he hs
theorem E_lcIf' {scope : Scope} (own : List (Str × Nat)) {ups : List (Nat × (β → PyData))} {fi : γ → m (List β)} {fc : γ → β → m Bool} {fe : γ → β → m α} [Imm α] (hcm : X.calm = true) (hN : X.N.Nodup) (ok : BlkOk X.N X.env.scope scope own)
    (hi : IV X W H0 ss tg iter fi) (ht : ∀ s H C cl fp, TJ (Bk X scope s H C cl fp) tg ups) (hv : ∀ i ∈ ups.map (·.1), i ∈ own.map (·.2))
    (hc : ∀ s H C cl fp, TV (Bk X scope s H C cl fp) W (Rr X.K W.Av H0 (bkS ups own ss)) c (fun g' => fc g'.1 g'.2))
    (he : ∀ s H C cl fp, EV (Bk X scope s H C cl fp) W (Rr X.K W.Av H0 (bkS ups own ss)) elt (fun g' => fe g'.1 g'.2)) (hs : ∀ x, foldedSetIterable iter X.env x = pure x) :
    EVf X W (Rr X.K W.Av H0 ss) (.ListComp elt [⟨tg, iter, [c], 0⟩] scope pos) (fun g => fi g >>= fun xs => selL (fun y => fc g y) (fun y => fe g y) xs >>= fun ys => pure (Ls.mk ys)) := E_lcIf (fc := fun g' => fc g'.1 g'.2) (fe := fun g' => fe g'.1 g'.2) hcm hN ok hi ht hv hc he hs
theorem S_lc' {x : Str} {px spos : Pos} (i : Nat) {scope : Scope} (own : List (Str × Nat)) {ups : List (Nat × (β → PyData))} {fi : γ → m (List β)} {fe : γ → β → m α} [Imm α] (hcm : X.calm = true) (hN : X.N.Nodup) (ok : BlkOk X.N X.env.scope scope own)
    (hx : X.N[i]? = some x) (hxl : X.env.scope.names.lookup x = some .local) (hsw : swapsWith (.ListComp elt [⟨tg, iter, [], 0⟩] scope pos) (some (.Name x px)) spos.line X.env = pure true)
    (hi : IV X W H0 ss tg iter fi) (ht : ∀ s H C cl fp, TJ (Bk X scope s H C cl fp) tg ups) (hv : ∀ i ∈ ups.map (·.1), i ∈ own.map (·.2))
    (he : ∀ s H C cl fp, EV (Bk X scope s H C cl fp) W (Rr X.K W.Av H0 (bkS ups own ss)) elt (fun g' => fe g'.1 g'.2)) (hs : ∀ x, foldedSetIterable iter X.env x = pure x) :
    SN X W H0 ss (.Assign [.Name x px] (.ListComp elt [⟨tg, iter, [], 0⟩] scope pos) spos) ((ss.map (SK.cm Prod.fst)).set i (.o fun g' : γ × Ls α => enc g'.2)) (fun g => fi g >>= fun xs => mapL (fun y => fe g y) xs >>= fun ys => pure (Ls.mk ys)) := S_lc (fe := fun g' => fe g'.1 g'.2) i hcm hN ok hx hxl hsw hi ht hv he hs
theorem S_lcIf' {x : Str} {px spos : Pos} (i : Nat) {scope : Scope} (own : List (Str × Nat)) {ups : List (Nat × (β → PyData))} {fi : γ → m (List β)} {fc : γ → β → m Bool} {fe : γ → β → m α} [Imm α] (hcm : X.calm = true) (hN : X.N.Nodup) (ok : BlkOk X.N X.env.scope scope own)
    (hx : X.N[i]? = some x) (hxl : X.env.scope.names.lookup x = some .local) (hsw : swapsWith (.ListComp elt [⟨tg, iter, [c], 0⟩] scope pos) (some (.Name x px)) spos.line X.env = pure true)
    (hi : IV X W H0 ss tg iter fi) (ht : ∀ s H C cl fp, TJ (Bk X scope s H C cl fp) tg ups) (hv : ∀ i ∈ ups.map (·.1), i ∈ own.map (·.2))
    (hc : ∀ s H C cl fp, TV (Bk X scope s H C cl fp) W (Rr X.K W.Av H0 (bkS ups own ss)) c (fun g' => fc g'.1 g'.2))
    (he : ∀ s H C cl fp, EV (Bk X scope s H C cl fp) W (Rr X.K W.Av H0 (bkS ups own ss)) elt (fun g' => fe g'.1 g'.2)) (hs : ∀ x, foldedSetIterable iter X.env x = pure x) :
    SN X W H0 ss (.Assign [.Name x px] (.ListComp elt [⟨tg, iter, [c], 0⟩] scope pos) spos) ((ss.map (SK.cm Prod.fst)).set i (.o fun g' : γ × Ls α => enc g'.2)) (fun g => fi g >>= fun xs => selL (fun y => fc g y) (fun y => fe g y) xs >>= fun ys => pure (Ls.mk ys)) := S_lcIf (fc := fun g' => fc g'.1 g'.2) (fe := fun g' => fe g'.1 g'.2) i hcm hN ok hx hxl hsw hi ht hv hc he hs
end
end TC

namespace TC
open PySem PySem.Spec PyProof.Rows L2
open Py (enc)
def okNames (N : List Str) : Bool := N.all fun x => !(x == ("__debug__" : Str)) && !(x == ("__classdict__" : Str))
theorem okNames_get {N : List Str} (h : okNames N = true) {i : Nat} {x : Str} (e : N[i]? = some x) : (x == ("__debug__" : Str)) = false ∧ (x == ("__classdict__" : Str)) = false := by
  have := List.all_eq_true.mp h x (List.mem_of_getElem? e)
  simpa using this
section
variable {S : Type} {m : Type → Type} [Monad m] [MR m S] {γ α β : Type} [Py α] [Py β] {X : Cx} {W : Wd S} {H0 : Hp} {ss : List (SK γ)} {x : Str} {p pos : Pos} {rest : List Stmt} {tg : Expr}
theorem E_v (i : Nat) (ok : okNames X.N = true) {f : γ → α} (hk : ss[i]? = some (.v fun g => enc (f g)) ∨ ss[i]? = some (.o fun g => enc (f g))) (hN : X.N[i]? = some x) (hv : Vis X.env.scope x) :
    EV X W (Rr X.K W.Av H0 ss) (.Name x p) (fun g => (pure (f g) : m α)) := E_var i hk hN hv (okNames_get ok hN).1 (okNames_get ok hN).2
theorem I_v [Imm β] (i : Nat) (ok : okNames X.N = true) {f : γ → Ls β} (hk : ss[i]? = some (.v fun g => enc (f g))) (hN : X.N[i]? = some x) (hv : Vis X.env.scope x) :
    IV X W H0 ss tg (.Name x p) (fun g => (pure (f g).l : m (List β))) := I_lstV i hk hN hv (okNames_get ok hN).1 (okNames_get ok hN).2
theorem B_ro (i : Nat) (ok : okNames X.N = true) {f : γ → Ls α} [Imm α] (hk : ss[i]? = some (.o fun g => enc (f g))) (hN : X.N[i]? = some x) (hv : Vis X.env.scope x) :
    BJ X W H0 ss (.Return (some (.Name x p)) pos :: rest) (fun g => (pure (f g) : m (Ls α))) (fun _ => NdR X W H0 (Ls α)) := B_retO i hk hN hv (okNames_get ok hN).1 (okNames_get ok hN).2
end

/-! ### a def -/
inductive Ini {γ : Type} (g : γ) : List (SK γ) → List PyData → Prop
  | nil : Ini g [] []
  | u {ss : List (SK γ)} : Ini g ss [] → Ini g (.u :: ss) []
  | v {d : γ → PyData} {x : PyData} {ss : List (SK γ)} {ds : List PyData} : d g = x → Ini g ss ds → Ini g (.v d :: ss) (x :: ds)
theorem Ini.get {γ : Type} {g : γ} : ∀ {ss : List (SK γ)} {ds : List PyData} {i : Nat} {k : SK γ}, Ini g ss ds → ss[i]? = some k → k = .u ∨ ∃ d, k = .v d ∧ ds[i]? = some (d g)
  | _, _, _, _, .nil, h => by simp at h
  | _, _, 0, _, .u t, h => by simp at h; exact .inl h.symm
  | _, _, i + 1, _, .u t, h => by
    rcases Ini.get (i := i) t (by simpa using h) with h | ⟨d, h, h'⟩
    · exact .inl h
    · simp at h'
  | _, _, 0, _, .v e t, h => by simp at h; subst h; exact .inr ⟨_, rfl, by simp [e]⟩
  | _, _, i + 1, _, .v e t, h => by
    rcases Ini.get (i := i) t (by simpa using h) with h | ⟨d, h, h'⟩
    · exact .inl h
    · exact .inr ⟨d, h, by simpa using h'⟩
section
variable {P : Program} {w : World} {K : PySem.W.Frag} {mg : Str → Option Value} {base : Heap} {γ ρ : Type} [Py ρ]
theorem fn_D {x qual : Str} {st : Stmt} {f : Addr} {fd : FuncData} {N ps : List Str} {k n : Nat} (F : Fun K x qual st f fd) (S : FnScope N ps (defScope st)) (ss : List (SK γ)) (mir : γ → Option ρ) (M : List PyData → PyData → Prop) (hps : ps.length = n) (hl : ss.length = N.length)
    (hM : ∀ ds d, M ds d → ds.length = n ∧ ∃ g r, Ini g ss ds ∧ mir g = some r ∧ d = enc r)
    (body : ∀ (cdv : Value) (A : Around) (outer : List Env) (s : Shared) (H : Hp) (E : XK), Room k (A.deeper (envOfC qual (defScope st) s.heap.objs.size f cdv)) →
      BJ (cxOf CX0 P w K mg base N qual (defScope st) f cdv A outer s H E).nox W0 H ss (defBody st) mir (fun _ => NdR (cxOf CX0 P w K mg base N qual (defScope st) f cdv A outer s H E).nox W0 H ρ)) : FnOk P w K mg base CX0 (k + 1) f fd ps (spD K n M) := by
  refine F.ok S (fun vs H Q E h => by rw [h.1, hps]) (fun cdv A outer s H vs Q E hr h => ?_)
  obtain ⟨hv, ds, d, hr1, hm, q⟩ := h
  obtain ⟨e1, g, r, ini, hmir, rfl⟩ := hM ds d hm
  refine ⟨_, pssW _, body cdv A outer s H E hr g () r () (by show (mir g).map _ = _; rw [hmir]; rfl) _ H ?_ trivial _ ?_⟩
  · have hN : ps.length ≤ N.length := by have := congrArg List.length S.pre; rw [List.length_take] at this; omega
    refine ⟨.refl _ _, ?_, fun i kk o h1 h2 => ?_, fun i j d e a h1 => ?_⟩
    · unfold L2.start
      rw [List.length_append, List.length_map, List.length_replicate, hl]
      omega
    · rcases ini.get h1 with rfl | ⟨d', rfl, h3⟩
      · trivial
      · obtain ⟨v, h4, h5⟩ := hr1.get h3
        have hi : i < vs.length := (List.getElem?_eq_some_iff.mp h4).1
        unfold L2.start at h2
        rw [List.getElem?_append_left (by simpa using hi), List.getElem?_map, h4] at h2
        cases h2
        refine ⟨v, rfl, h5.weak fun a z => ?_⟩
        rcases z with z | ⟨j, e, z1, z2⟩
        · exact z
        · rcases ini.get z1 with z | ⟨_, z, _⟩ <;> cases z
    · rcases ini.get h1 with z | ⟨_, z, _⟩ <;> cases z
  · intro v H' g1 _ p
    exact q v H' (fun a o e => g1.kp a o e fun z => z.elim) p
end
end TC

namespace TC
open PySem PySem.Spec PyProof.Rows L2
open Py (enc)

/-! ### an object of the def's own changes -/
section
variable {K : PySem.W.Frag} {Av : Addr → Prop} {H0 H : Hp} {γ : Type} {ss : List (SK γ)} {g : γ} {σ : Sg}
theorem grMut {A : Addr → Prop} {a : Addr} {x o : HO} (h : H a = some x) (mx : ¬ immO x) (hA : A a) : gr A H (upd H a o) := ⟨fun b u e i => by
  by_cases hb : b = a
  · subst hb
    rw [h] at e
    cases e
    exact absurd (i hA) mx
  · rw [upd_ne hb]; exact e, fun b z => by
  by_cases hb : b = a
  · subst hb; rw [upd_same]; simp
  · rw [upd_ne hb]; exact z⟩
theorem Own.seto' {i : Nat} {d d' : γ → PyData} (hk : ss[i]? = some (.o d)) {a : Addr} (h : Own (ss.set i (.o d')) σ a) : Own ss σ a := by
  obtain ⟨j, e, h1, h2⟩ := h
  by_cases hj : i = j
  · subst hj; exact ⟨i, d, hk, h2⟩
  · rw [List.getElem?_set_ne hj] at h1
    exact ⟨j, e, h1, h2⟩
theorem Rr.mut (r : Rr K Av H0 ss g σ H) (i : Nat) {d : γ → PyData} (d' : γ → PyData) (hk : ss[i]? = some (.o d)) {a : Addr} (ha : σ[i]? = some (some (.ref a))) {o : HO} (mo : ¬ immO o)
    (p : RpO K (fun b => Av b ∨ Own ss σ b) (upd H a o) a (d' g)) : Rr K Av H0 (ss.set i (.o d')) g σ (upd H a o) ∧ gr (fun b => Av b ∨ Own ss σ b) H (upd H a o) := by
  obtain ⟨a', e', q', n0, nA, x, hx, mx⟩ := r.slot i _ _ hk ha
  cases e'
  have own_a : Own ss σ a := ⟨i, d, hk, ha⟩
  have gA : gr (fun b => Av b ∨ Own ss σ b) H (upd H a o) := grMut hx mx (.inr own_a)
  have sub : ∀ b, (Av b ∨ Own (ss.set i (.o d')) σ b) → (Av b ∨ Own ss σ b) := fun b z => z.imp id (Own.seto' hk)
  refine ⟨⟨⟨fun b u e z => ?_, fun b z => gA.ex b (r.base.ex b z)⟩, by rw [List.length_set]; exact r.len, fun j k o' h1 h2 => ?_, fun j l e f b h1 h2 h3 h4 => ?_⟩, gA⟩
  · rw [upd_ne (ne_of_none e n0)]
    exact r.base.kp b u e z
  · by_cases hj : i = j
    · subst hj
      rw [List.getElem?_set_self'] at h1
      rw [hk] at h1
      cases h1
      rw [ha] at h2
      cases h2
      exact ⟨a, rfl, p.chg fun b z _ => sub b z, n0, nA, o, upd_same, mo⟩
    · rw [List.getElem?_set_ne hj] at h1
      have s := r.slot j k o' h1 h2
      cases k with
      | u => trivial
      | k w => exact s
      | v e =>
        obtain ⟨v, ev, p⟩ := s
        exact ⟨v, ev, (p.mono gA).weak sub⟩
      | o e =>
        obtain ⟨b, ev, p, n0', nA', y, hy, my⟩ := s
        have hb : b ≠ a := fun c => by
          subst c
          subst ev
          exact hj (r.one i j _ _ _ hk h1 ha h2)
        have gB : gr (fun c => c = a) H (upd H a o) := grMut hx mx rfl
        exact ⟨b, ev, (p.mono2 gA gB hb).chg fun c z _ => sub c z, n0', nA', y, by rw [upd_ne hb]; exact hy, my⟩
  · have get : ∀ {j : Nat} {e : γ → PyData}, (ss.set i (.o d'))[j]? = some (.o e) → ∃ e', ss[j]? = some (.o e') := fun {j e} h => by
      by_cases hj : i = j
      · subst hj; exact ⟨d, hk⟩
      · rw [List.getElem?_set_ne hj] at h; exact ⟨e, h⟩
    obtain ⟨e1, q1⟩ := get h1
    obtain ⟨e2, q2⟩ := get h2
    exact r.one j l e1 e2 b q1 q2 h3 h4
end
def appM {α : Type} (xs : Ls α) (y : α) : Option (Ls α) := if xs.l.length < 1000000 then some ⟨xs.l ++ [y]⟩ else none
def extM {α : Type} (xs ys : Ls α) : Option (Ls α) := if xs.l.length + ys.l.length < 1000000 then some ⟨xs.l ++ ys.l⟩ else none
def powM (i j : Int) : Option Int := if 0 ≤ j ∧ j ≤ 1000000 ∧ i.natAbs < 2 ^ 64 then some (i ^ j.toNat) else none
/-- xs[lo:hi] -/
def cutL {α : Type} (xs : List α) (lo hi : Option Int) : List α := (xs.drop (HT.sIx xs.length 0 lo)).take (HT.sIx xs.length xs.length hi - HT.sIx xs.length 0 lo)
theorem cutL_map {α : Type} [Py α] (xs : List α) (lo hi : Option Int) : (cutL xs lo hi).map enc = ((xs.map enc).drop (HT.sIx xs.length 0 lo)).take (HT.sIx xs.length xs.length hi - HT.sIx xs.length 0 lo) := by
  unfold cutL
  rw [List.map_take, List.map_drop]
theorem cut_all {α : Type} [Py α] {K : PySem.W.Frag} {A : Addr → Prop} {H : Hp} {vs : List V} {xs : List α} (h : RpAll K A H vs (xs.map enc)) (lo hi : Option Int) : RpAll K A H (cutV vs lo hi) ((cutL xs lo hi).map enc) := by
  have hl := h.length
  rw [List.length_map] at hl
  rw [cutL_map]
  unfold cutV
  rw [hl]
  exact (h.drop _).take _
theorem cut_whole {α : Type} (xs : List α) (lo hi : Option Int) (h : HT.sIx xs.length 0 lo = 0 ∧ HT.sIx xs.length xs.length hi = xs.length) : cutL xs lo hi = xs := by
  unfold cutL
  rw [h.1, h.2]
  simp
section
variable {S : Type} {m : Type → Type} [Monad m] [MR m S] {γ δ τ ρ α β : Type} [Py α] [Py β] [Py ρ]
variable {X : Cx} {W : Wd S} {H0 : Hp} {R : γ → Sg → Hp → Prop} {ss : List (SK γ)} {e a b c tg iter elt : Expr} {st : Stmt} {rest body : List Stmt} {pos p p1 p2 p3 : Pos} {x : Str}
/-- x.append(e) -/
theorem S_app (i : Nat) (ok : okNames X.N = true) {fx : γ → Ls α} {f : γ → m α} [Imm α] (hk : ss[i]? = some (.o fun g => enc (fx g))) (n1 : NS e) (he : EV X W (Rr X.K W.Av H0 ss) e f) (hN : X.N[i]? = some x) (hv : Vis X.env.scope x)
    (hs : swapsWith (.Call (.Attribute (.Name x p1) "append" p2) [e] [] p3) none pos.line X.env = pure false) (hbase : attributeBase (.Name x p1) "append" X.env (eval (.Name x p1) X.env) = eval (.Name x p1) X.env) (hline : (p2.endLine == p3.line) = true) :
    SN X W H0 ss (.Expr (.Call (.Attribute (.Name x p1) "append" p2) [e] [] p3) pos) ((ss.map (SK.cm Prod.fst)).set i (.o fun g' : γ × Ls α => enc g'.2)) (fun g => f g >>= fun y => MR.lift (appM (fx g) y)) := fun g s t s' rn σ H hR hW D nd => by
  obtain ⟨y, s1, e0, rn⟩ := run_bind_some rn
  obtain ⟨h3, rfl⟩ := run_lift_some rn
  unfold appM at h3
  split at h3
  · rename_i hlt
    cases h3
    have hi : i < ss.length := (List.getElem?_eq_some_iff.mp hk).1
    obtain ⟨w, hs'⟩ : ∃ w, σ[i]? = some w := ⟨_, List.getElem?_eq_getElem (show i < σ.length by rw [← hR.len]; exact hi)⟩
    obtain ⟨a, rfl, q, _⟩ := hR.slot i _ _ hk hs'
    cases q with
    | lst z h t =>
      refine wS.of (ps_expr (pe_bm PySem.F.plainAttrs_list PySem.F.slot_list_append PySem.F.type_list_append mt_append (pe_var hN hv (okNames_get ok hN).1 (okNames_get ok hN).2) (pa_cons (peW e) pa_nil (n1 _ _)) hbase (by rw [n1]; unfold starEach; rfl) hline (n1 _ _) (by unfold starEach; rfl)) hs) ?_
      refine ⟨_, hs', .inl ⟨rfl, _, .of h⟩, he g s y _ e0 σ H hR hW _ fun v H1 g1 w1 p1 => ?_⟩
      have r1 := hR.st g1
      obtain ⟨a', e', q', n0, nA, x', hx', mx'⟩ := r1.slot i _ _ hk hs'
      cases e'
      cases q' with
      | lst z' h' t' =>
        rename_i xs'
        have hlen := t'.length
        rw [List.length_map] at hlen
        have hlt' : xs'.length < 1000000 := by rw [hlen]; exact hlt
        have hl2 : xs'.length < sizeLine := Nat.lt_of_lt_of_le hlt' (by decide)
        refine ⟨a, xs', v, rfl, rfl, h', hl2, ?_⟩
        have r2 := r1.cm (Prod.fst : γ × Ls α → γ) (g' := (g, ⟨(fx g).l ++ [y]⟩)) rfl
        have hk' : (ss.map (SK.cm (Prod.fst : γ × Ls α → γ)))[i]? = some (.o fun g' => enc (fx g'.1)) := by rw [List.getElem?_map, hk]; rfl
        have gT : gr (fun _ => True) H1 (upd H1 a (.lst (xs' ++ [v]))) := grMut h' (fun z => z) trivial
        obtain ⟨r3, g3⟩ := r2.mut i (fun g' => enc g'.2) hk' hs' (o := .lst (xs' ++ [v])) (fun z => z) (.lst (by rw [List.length_append]; show xs'.length + 1 ≤ sizeLine; omega) upd_same (by
          show RpAll _ _ _ _ (List.map enc ((fx g).l ++ [y]))
          rw [List.map_append]
          exact ((((t'.any (immDs_map (fx g).l)).append (.cons (p1.any (Imm.imm y)) .nil)).mono gT).any (by rw [← List.map_append]; exact immDs_map _))))
        refine nd σ _ ⟨?_, fun b zb => .inl ?_⟩ ?_ r3
        · exact (Tr.of_gr g1).g.trans (g3.mono fun b zb => zb.imp id Own.cm)
        · exact Own.cm (Own.seto' hk' zb)
        · exact W.keep _ _ _ w1 fun b o zb eb => by rw [upd_ne (show b ≠ a from fun c => by subst c; exact nA zb)]; exact eb
  · cases h3
/-- parts of a slice -/
def PV (X : Cx) (W : Wd S) (R : γ → Sg → Hp → Prop) (e : Option Expr) (f : γ → m (Option Int)) : Prop :=
  ∃ t, PO X e t ∧ ∀ g s x s', MR.run (f g) s = some (x, s') → ∀ σ H, R g σ H → W.WI s H → ∀ Q : Option Int → Hp → Prop, (∀ H', gr W.Av H H' → W.WI s' H' → Q x H') → t σ H Q
theorem P_none : PV X W R none (fun _ => (pure none : m (Option Int))) := ⟨_, po_none, fun g s x s' r σ H hR hW Q q => by
  obtain ⟨rfl, rfl⟩ := run_pure_some r
  exact q H (.refl _ _) hW⟩
theorem P_some {f : γ → m Int} (h : EV X W R e f) : PV X W R (some e) (fun g => f g >>= fun i => pure (some i)) := ⟨_, po_some (peW e), fun g s x s' r σ H hR hW Q q => by
  obtain ⟨i, s1, h1, r⟩ := run_bind_some r
  obtain ⟨rfl, rfl⟩ := run_pure_some r
  exact h g s i _ h1 σ H hR hW _ fun v H' g1 w1 p => ⟨i, p.int_inv, q H' g1 w1⟩⟩
/-- t[lo:hi] of a tuple -/
theorem E_slT [Imm α] {lo hi : Option Expr} {f : γ → m (List α)} {k l : γ → m (Option Int)} (sb : Stb W R) (h : EV X W R e f) (hl : PV X W R lo k) (hh : PV X W R hi l) : EV X W R (.Subscript e (.Slice lo hi none p) pos) (fun g => f g >>= fun x => k g >>= fun i => l g >>= fun j => pure (cutL x i j)) := fun g s x s' r σ H hR hW Q q => by
  obtain ⟨z0, s1, e0, r⟩ := run_bind_some r
  obtain ⟨z1, s2, e1, r⟩ := run_bind_some r
  obtain ⟨z2, s3, e2, r⟩ := run_bind_some r
  obtain ⟨rfl, rfl⟩ := run_pure_some r
  obtain ⟨tl, pl, hl⟩ := hl
  obtain ⟨th, ph, hh⟩ := hh
  refine wE.of (pe_slice sl_tupA (peW e) pl ph) (h g s z0 s1 e0 σ H hR hW _ fun v H1 g1 w1 p1 => hl g s1 z1 s2 e1 σ H1 (sb _ _ _ _ hR g1) w1 _ fun H2 g2 w2 => hh g s2 z2 _ e2 σ H2 (sb _ _ _ _ (sb _ _ _ _ hR g1) g2) w2 _ fun H3 g3 w3 => ?_)
  obtain ⟨a, xs, rfl, hz, hs, hx⟩ := ((p1.mono g2).mono g3).tup_inv
  have hlen := hx.length
  rw [List.length_map] at hlen
  refine ⟨a, xs, rfl, hs, fun hw => q _ H3 ((g1.trans g2).trans g3) w3 ?_, fun _ t ht => q _ _ (((g1.trans g2).trans g3).trans (.new ht)) (W.new w3 ht) (.tup (Nat.le_trans (cutV_length xs _ _) hz) (.of upd_same) ((cut_all hx _ _).mono (.new ht)))⟩
  rw [cut_whole z0 z1 z2 (by rw [← hlen]; exact hw)]
  exact .tup hz hs hx
/-- xs[lo:hi] of a list -/
theorem E_slL [Imm α] {lo hi : Option Expr} {f : γ → m (Ls α)} {k l : γ → m (Option Int)} (sb : Stb W R) (h : EV X W R e f) (hl : PV X W R lo k) (hh : PV X W R hi l) : EVf X W R (.Subscript e (.Slice lo hi none p) pos) (fun g => f g >>= fun x => k g >>= fun i => l g >>= fun j => pure (Ls.mk (cutL x.l i j))) := fun g s x s' r σ H hR hW Q q => by
  obtain ⟨z0, s1, e0, r⟩ := run_bind_some r
  obtain ⟨z1, s2, e1, r⟩ := run_bind_some r
  obtain ⟨z2, s3, e2, r⟩ := run_bind_some r
  obtain ⟨rfl, rfl⟩ := run_pure_some r
  obtain ⟨tl, pl, hl⟩ := hl
  obtain ⟨th, ph, hh⟩ := hh
  refine wE.of (pe_slice sl_list (peW e) pl ph) (h g s z0 s1 e0 σ H hR hW _ fun v H1 g1 w1 p1 => hl g s1 z1 s2 e1 σ H1 (sb _ _ _ _ hR g1) w1 _ fun H2 g2 w2 => hh g s2 z2 _ e2 σ H2 (sb _ _ _ _ (sb _ _ _ _ hR g1) g2) w2 _ fun H3 g3 w3 => ?_)
  obtain ⟨a, xs, rfl, hn, hz, hs, hx⟩ := ((p1.mono g2).mono g3).lst_inv
  have g4 := (g1.trans g2).trans g3
  exact ⟨a, xs, rfl, .of hs, fun t ht => q _ _ (g4.trans (.new ht)) (W.new w3 ht) (.obj (fun z => g4.ex t z ht) (.lst (Nat.le_trans (cutV_length xs _ _) hz) upd_same (((cut_all hx _ _).mono (.new ht)).any (immDs_map _))))⟩
/-- t + u of tuples -/
def catM {α : Type} (x y : List α) : Option (List α) := if x.length + y.length ≤ 1000000 then some (x ++ y) else none
theorem E_catT (sb : Stb W R) {f k : γ → m (List α)} (ha : EV X W R a f) (hb : EV X W R b k) : EV X W R (.BinOp a .Add b pos) (fun g => f g >>= fun x => k g >>= fun y => MR.lift (catM x y)) := fun g s x s' r σ H hR hW Q q => by
  obtain ⟨z0, s1, e0, r⟩ := run_bind_some r
  obtain ⟨z1, s2, e1, r⟩ := run_bind_some r
  obtain ⟨h3, rfl⟩ := run_lift_some r
  unfold catM at h3
  split at h3
  · rename_i hlt
    cases h3
    refine wE.of (pe_op op_catA (peW a) (peW b)) (EV.two sb ha hb e0 e1 hR hW fun v u H' g1 w1 p1 p2 => ?_)
    obtain ⟨a1, xs, rfl, hz, hs, hx⟩ := p1.tup_inv
    obtain ⟨a2, ys, rfl, hz', hs', hy⟩ := p2.tup_inv
    have l1 := hx.length
    have l2 := hy.length
    rw [List.length_map] at l1 l2
    have hsz : xs.length + ys.length ≤ sizeLine := by rw [l1, l2]; exact Nat.le_trans hlt (by decide)
    refine ⟨a1, a2, xs, ys, rfl, rfl, hs, hs', hsz, fun e => q _ H' g1 w1 ?_, fun _ e => q _ H' g1 w1 ?_, fun _ _ t ht => q _ _ (g1.trans (.new ht)) (W.new w1 ht) (.tup (by rw [List.length_append]; exact hsz) (.of upd_same) ?_)⟩
    · subst e
      have : z0 = [] := List.length_eq_zero_iff.mp l1.symm
      subst this
      exact p2
    · subst e
      have : z1 = [] := List.length_eq_zero_iff.mp l2.symm
      subst this
      rw [List.append_nil]
      exact p1
    · rw [List.map_append]
      exact (hx.append hy).mono (.new ht)
  · cases h3
theorem E_pow (sb : Stb W R) {f k : γ → m Int} (ha : EV X W R a f) (hb : EV X W R b k) : EV X W R (.BinOp a .Pow b pos) (fun g => f g >>= fun i => k g >>= fun j => MR.lift (powM i j)) :=
  E_opI powM (fun {_} => op_pow) (fun i j z h => by
    unfold powM at h
    split at h
    · rename_i q
      cases h
      exact ⟨q, rfl⟩
    · cases h) sb ha hb
/-- int(e) of an int -/
theorem E_intI {f : γ → m Int} (hm : X.mg "int" = none) (hg : Gl X "int") (sb : Stb W R) (n : NS a) (h : EV X W R a f) : EV X W R (.Call (.Name "int" p) [a] [] pos) f := fun g s y s' r σ H hR hW Q q => by
  refine ty_run call_int1 hg hm (by decide +kernel) (ns1 n) (by decide) (by decide) (A1_run sb n h r hR hW fun v H1 g1 w1 p1 => ?_)
  exact .inl ⟨y, by rw [p1.int_inv], q _ _ g1 w1 (.int _)⟩
theorem E_intB {f : γ → m Bool} (hm : X.mg "int" = none) (hg : Gl X "int") (sb : Stb W R) (n : NS a) (h : EV X W R a f) : EV X W R (.Call (.Name "int" p) [a] [] pos) (fun g => f g >>= fun b => pure (if b then 1 else 0 : Int)) := fun g s y s' r σ H hR hW Q q => by
  obtain ⟨z0, s1, e0, r⟩ := run_bind_some r
  obtain ⟨rfl, rfl⟩ := run_pure_some r
  refine ty_run call_int1 hg hm (by decide +kernel) (ns1 n) (by decide) (by decide) (A1_run sb n h e0 hR hW fun v H1 g1 w1 p1 => ?_)
  exact .inr ⟨z0, by rw [p1.bl_inv], q _ _ g1 w1 (.int _)⟩
/-! the script -/
theorem SqL_gr {K : PySem.W.Frag} {A : Addr → Prop} {H H' : Hp} {a : Addr} {xs : List V} (g : gr A H H') (n : ¬ A a) (h : SqL K H a xs) : SqL K H' a xs := by
  rcases h with h | h
  · exact .inl (g.rd (fun z => absurd z n) h)
  · exact .inr h
theorem E_scLen {i : Nat} {a : Addr} {ns : List Int} (ok : okNames X.N = true) (hS : SqL X.K H0 a (ns.map V.int)) (nA : ¬ W.Av a) (hk : ss[i]? = some (.k (.ref a))) (hN : X.N[i]? = some x) (hv : Vis X.env.scope x) (hm : X.mg "len" = none) (hg : Gl X "len") :
    EV X W (Rr X.K W.Av H0 ss) (.Call (.Name "len" p) [.Name x p1] [] pos) (fun _ => (pure (ns.length : Int) : m Int)) := fun g s y s' r σ H hR hW Q q => by
  obtain ⟨rfl, rfl⟩ := run_pure_some r
  have hi : i < ss.length := (List.getElem?_eq_some_iff.mp hk).1
  obtain ⟨w, hs'⟩ : ∃ w, σ[i]? = some w := ⟨_, List.getElem?_eq_getElem (show i < σ.length by rw [← hR.len]; exact hi)⟩
  have e := hR.slot i _ _ hk hs'
  refine blt_run call_len_seq hg hm PySem.boot_len (ns1 (by intro _ _; rfl)) (by decide) (by decide) (wA.of (pa_cons (pe_var hN hv (okNames_get ok hN).1 (okNames_get ok hN).2) pa_nil) ⟨.ref a, by rw [hs', e], ?_⟩)
  exact ⟨a, _, rfl, .inl (SqL_gr hR.base nA hS), by rw [List.length_map]; exact q _ H (.refl _ _) hW (.int _)⟩
theorem E_scIx {f : γ → m Int} {i : Nat} {a : Addr} {ns : List Int} (ok : okNames X.N = true) (hS : SqL X.K H0 a (ns.map V.int)) (nA : ¬ W.Av a) (hk : ss[i]? = some (.k (.ref a))) (hN : X.N[i]? = some x) (hv : Vis X.env.scope x) (h : EV X W (Rr X.K W.Av H0 ss) e f) (hp : PlainIx e := by exact fun _ _ => rfl) :
    EV X W (Rr X.K W.Av H0 ss) (.Subscript (.Name x p1) e pos) (fun g => f g >>= fun i => MR.lift (atI ns i)) := fun g s y s' r σ H hR hW Q q => by
  obtain ⟨z0, s1, e0, r⟩ := run_bind_some r
  obtain ⟨h3, rfl⟩ := run_lift_some r
  have hi : i < ss.length := (List.getElem?_eq_some_iff.mp hk).1
  obtain ⟨w, hs'⟩ : ∃ w, σ[i]? = some w := ⟨_, List.getElem?_eq_getElem (show i < σ.length by rw [← hR.len]; exact hi)⟩
  have e' := hR.slot i _ _ hk hs'
  refine wE.of (pe_ix ix_list (pe_var hN hv (okNames_get ok hN).1 (okNames_get ok hN).2) (peW e) hp) ⟨.ref a, by rw [hs', e'], h g s z0 _ e0 σ H hR hW _ fun v H1 g1 w1 p1 => ?_⟩
  have hI : atI (ns.map V.int) z0 = some (.int y) := by
    unfold atI at h3 ⊢
    rw [List.length_map]
    cases q1 : ixN ns.length z0 with
    | none => rw [q1] at h3; cases h3
    | some j =>
      rw [q1] at h3
      have h3 : ns[j]? = some y := h3
      show (ns.map V.int)[j]? = _
      rw [List.getElem?_map, h3]; rfl
  exact ⟨a, _, _, _, rfl, p1.int_inv, SqL_gr (hR.base.trans g1) nA hS, hI, q _ _ g1 w1 (.int _)⟩
end

/-! ### the law's own draws -/
def kDraws : Key := .inr "draws"
def kAt : Key := .inr "at"
def Wl (a D : Addr) (ds : List Int) : Wd Int where
  Av b := b = a ∨ b = D
  WI n H := H a = some (.dK [(kDraws, .ref D), (kAt, .int n)]) ∧ H D = some (.lst (ds.map V.int)) ∧ 0 ≤ n
  old n H b h z := by
    rcases z with rfl | rfl
    · rw [h.1]; simp
    · rw [h.2.1]; simp
  keep n H H' h k := ⟨k a _ (.inl rfl) h.1, k D _ (.inr rfl) h.2.1, h.2.2⟩
/-- the next draw below many -/
def nxt (ds : List Int) (many : Int) : SM Int Int := fun n =>
  if (ds.length : Int) < n + 1 then some (0, n + 1) else (atI ds n).bind fun x => (modM x many).map fun r => (r, n + 1)
def spN (K : PySem.W.Frag) : Sp := fun vs H Q _ => vs.length = 2 ∧ ∃ (a D : Addr) (ds : List Int) (n many r n' : Int), vs = [.ref a, .int many] ∧ (Wl a D ds).WI n H ∧ nxt ds many n = some (r, n') ∧ ∀ H', gr (Wl a D ds).Av H H' → (Wl a D ds).WI n' H' → Q (.int r) H'
def spH (mir : List Int → SM Int Bool) : Sp := fun vs H Q _ => vs.length = 1 ∧ ∃ (a D : Addr) (ds : List Int) (n : Int) (b : Bool) (n' : Int), vs = [.ref a] ∧ (Wl a D ds).WI n H ∧ mir ds n = some (b, n') ∧ ∀ H', gr (Wl a D ds).Av H H' → (Wl a D ds).WI n' H' → Q (.bl b) H'
structure DfnN (P : Program) (w : World) (K : PySem.W.Frag) (mg : Str → Option Value) (base : Heap) (A : Around) : Prop where
  ex : ∃ k f fd ps, FnOk P w K mg base CX0 k f fd ps (spN K) ∧ Room k A ∧ mg "_law_next" = some (.ref f) ∧ PySem.W.keepIn K (.ref f) = true ∧ Binds K fd ps []
section
variable {γ : Type} {X : Cx} {a D : Addr} {ds : List Int} {H0 : Hp} {ss : List (SK γ)} {e : Expr} {x : Str} {p p1 pos : Pos}
/-- _law_next(w, e) -/
theorem E_next {f : γ → SM Int Int} (i : Nat) (ok : okNames X.N = true) (N : DfnN X.prog X.w X.K X.mg X.base X.A) (hg : Gl X "_law_next") (hk : ss[i]? = some (.k (.ref a))) (hN : X.N[i]? = some x) (hv : Vis X.env.scope x) (n1 : NS e) (h : EV X (Wl a D ds) (Rr X.K (Wl a D ds).Av H0 ss) e f) :
    EV X (Wl a D ds) (Rr X.K (Wl a D ds).Av H0 ss) (.Call (.Name "_law_next" p) [.Name x p1, e] [] pos) (fun g => f g >>= fun n => nxt ds n) := fun g s y s' r σ H hR hW Q q => by
  obtain ⟨z0, s1, e0, r⟩ := run_bind_some r
  obtain ⟨k, fa, fd, ps, F, hr, hm, hkp, hb⟩ := N.ex
  have hi : i < ss.length := (List.getElem?_eq_some_iff.mp hk).1
  obtain ⟨w, hs'⟩ : ∃ w, σ[i]? = some w := ⟨_, List.getElem?_eq_getElem (show i < σ.length by rw [← hR.len]; exact hi)⟩
  have e' := hR.slot i _ _ hk hs'
  refine wE.of (pe_call F hr hg hm hkp hb (dvs := []) .nil pass0 (pa_cons (pe_var hN hv (okNames_get ok hN).1 (okNames_get ok hN).2) (pa_cons (peW e) pa_nil (n1 _ _))) (by decide) (by rfl) (by rw [backTo_any, n1]; unfold starEach; rfl)) ⟨.ref a, by rw [hs', e'], h g s z0 s1 e0 σ H hR hW _ fun v H1 g1 w1 p1 => ?_⟩
  refine ⟨rfl, a, D, ds, s1, z0, y, s', by rw [p1.int_inv]; rfl, w1, r, fun H2 g2 w2 => q _ H2 (g1.trans g2) w2 (.int _)⟩
end
section
variable {P : Program} {w : World} {K : PySem.W.Frag} {mg : Str → Option Value} {base : Heap}
/-- _law_holds -/
theorem fn_H {x qual : Str} {st : Stmt} {f : Addr} {fd : FuncData} {N ps : List Str} {k : Nat} (F : Fun K x qual st f fd) (S : FnScope N ps (defScope st)) (mir : List Int → SM Int Bool) (hps : ps.length = 1)
    (body : ∀ (a D : Addr) (ds : List Int) (cdv : Value) (A : Around) (outer : List Env) (s : Shared) (H : Hp) (E : XK), Room k (A.deeper (envOfC qual (defScope st) s.heap.objs.size f cdv)) →
      BJ (cxOf CX0 P w K mg base N qual (defScope st) f cdv A outer s H E).nox (Wl a D ds) H (.k (.ref a) :: List.replicate (N.length - 1) (.u : SK Unit)) (defBody st) (fun _ => mir ds) (fun _ => NdR (cxOf CX0 P w K mg base N qual (defScope st) f cdv A outer s H E).nox (Wl a D ds) H Bool)) : FnOk P w K mg base CX0 (k + 1) f fd ps (spH mir) := by
  refine F.ok S (fun vs H Q E h => by rw [h.1, hps]) (fun cdv A outer s H vs Q E hr h => ?_)
  obtain ⟨hv, a, D, ds, n, b, n', rfl, hW, hmir, q⟩ := h
  refine ⟨_, pssW _, body a D ds cdv A outer s H E hr () n b n' hmir _ H ?_ hW _ ?_⟩
  · have hN : ps.length ≤ N.length := by have := congrArg List.length S.pre; rw [List.length_take] at this; omega
    refine ⟨.refl _ _, ?_, fun i kk o h1 h2 => ?_, fun i j d e a' h1 => ?_⟩
    · unfold L2.start
      simp
    · cases i with
      | zero =>
        simp at h1
        subst h1
        unfold L2.start at h2
        simp at h2
        exact h2.symm
      | succ i =>
        rw [List.getElem?_cons_succ, List.getElem?_replicate] at h1
        split at h1
        · cases h1; trivial
        · cases h1
    · cases i with
      | zero => simp at h1
      | succ i =>
        rw [List.getElem?_cons_succ, List.getElem?_replicate] at h1
        split at h1 <;> cases h1
  · intro v H' g1 w1 p
    have e : v = .bl b := p.bl_inv
    subst e
    exact q H' g1 w1
end
end TC

namespace TC
open PySem PySem.Spec PyProof.Rows L2
open Py (enc)
abbrev fuel : Nat := 1000000000000000000000000000000
/-! a tuple of any length taken apart -/
def un2 {α : Type} : List α → Option (α × α)
  | [a, b] => some (a, b)
  | _ => none
def un3 {α : Type} : List α → Option (T3 α α α)
  | [a, b, c] => some ⟨a, b, c⟩
  | _ => none
def un4 {α : Type} : List α → Option (T4 α α α α)
  | [a, b, c, d] => some ⟨a, b, c, d⟩
  | _ => none
theorem un2_ok {α : Type} [Py α] : ∀ (x : List α) y, un2 x = some y → (enc y : PyData) = enc x
  | [a, b], y, h => by cases h; rfl
  | [], _, h => nomatch h
  | [_], _, h => nomatch h
  | _ :: _ :: _ :: _, _, h => nomatch h
theorem un3_ok {α : Type} [Py α] : ∀ (x : List α) y, un3 x = some y → (enc y : PyData) = enc x
  | [a, b, c], y, h => by cases h; rfl
  | [], _, h => nomatch h
  | [_], _, h => nomatch h
  | [_, _], _, h => nomatch h
  | _ :: _ :: _ :: _ :: _, _, h => nomatch h
theorem un4_ok {α : Type} [Py α] : ∀ (x : List α) y, un4 x = some y → (enc y : PyData) = enc x
  | [a, b, c, d], y, h => by cases h; rfl
  | [], _, h => nomatch h
  | [_], _, h => nomatch h
  | [_, _], _, h => nomatch h
  | [_, _, _], _, h => nomatch h
  | _ :: _ :: _ :: _ :: _ :: _, _, h => nomatch h
/-! a module's constant -/
def KC (K : PySem.W.Frag) (a : Addr) {α : Type} [Py α] (x : α) : Prop := ∀ (A : Addr → Prop) (H : Hp), Rp K A H (.ref a) (enc x)
theorem kc_of {K : PySem.W.Frag} {a : Addr} {o : Obj} {its : Array Value} {n : Nat} {vs : List V} {α : Type} [Py α] {x : α} {ds : List PyData} (hk : K.lookup a = some o) (hc : o.cls = .type "tuple") (hd : o.data = .seq its n) (hz : its.size ≤ sizeLine) (hv : Vals vs its.toList) (hx : enc x = .tuple ds) (hr : ∀ A H, RpAll K A H vs ds) : KC K a x := fun A H => by
  rw [hx]
  refine .tup ?_ (.inr ⟨o, its, n, hk, hc, hd, hz, hv⟩) (hr A H)
  rw [hv.length]
  simpa using hz
section
variable {S : Type} {m : Type → Type} [Monad m] [MR m S] {γ α : Type} [Py α] {X : Cx} {W : Wd S} {R : γ → Sg → Hp → Prop} {x : Str} {pos : Pos}
theorem E_const {a : Addr} {v : α} (c : KC X.K a v) (hg : Gl X x) (hm : X.mg x = some (.ref a)) (hd : (x == ("__debug__" : Str)) = false := by decide) : EV X W R (.Name x pos) (fun _ => (pure v : m α)) := fun g s y s' r σ H hR hW Q q => by
  obtain ⟨rfl, rfl⟩ := run_pure_some r
  exact wE.of (pe_glob hg hm (v := .ref a) rfl hd) (q _ H (.refl _ _) hW (c _ _))
end
/-! the law's draws -/
def spDr (K : PySem.W.Frag) (mir : List Int → Int → Option (Ls Int)) : Sp := fun vs H Q _ => vs.length = 2 ∧ ∃ (a : Addr) (ns : List Int) (many : Int) (l : Ls Int), vs = [.ref a, .int many] ∧ SqL K H a (ns.map V.int) ∧ mir ns many = some l ∧ ∀ v H', Same H H' → Rp K (fun a => H a ≠ none) H' v (enc l) → Q v H'
section
variable {P : Program} {w : World} {K : PySem.W.Frag} {mg : Str → Option Value} {base : Heap}
theorem fn_Dr {x qual : Str} {st : Stmt} {f : Addr} {fd : FuncData} {N ps : List Str} {k : Nat} (F : Fun K x qual st f fd) (S : FnScope N ps (defScope st)) (r : Nat) (hps : ps.length = 2) (hN : N.length = 2 + r) (mir : List Int → Int → Option (Ls Int))
    (body : ∀ (a : Addr) (ns : List Int) (cdv : Value) (A : Around) (outer : List Env) (s : Shared) (H : Hp) (E : XK), Room k (A.deeper (envOfC qual (defScope st) s.heap.objs.size f cdv)) → SqL K H a (ns.map V.int) →
      BJ (cxOf CX0 P w K mg base N qual (defScope st) f cdv A outer s H E).nox W0 H (.k (.ref a) :: .v (fun g : Int => enc g) :: List.replicate r .u) (defBody st) (fun g => mir ns g) (fun _ => NdR (cxOf CX0 P w K mg base N qual (defScope st) f cdv A outer s H E).nox W0 H (Ls Int))) : FnOk P w K mg base CX0 (k + 1) f fd ps (spDr K mir) := by
  refine F.ok S (fun vs H Q E h => by rw [h.1, hps]) (fun cdv A outer s H vs Q E hr h => ?_)
  obtain ⟨hv, a, ns, many, l, rfl, hS, hmir, q⟩ := h
  refine ⟨_, pssW _, body a ns cdv A outer s H E hr hS many () l () (by show (mir ns many).map _ = _; rw [hmir]; rfl) _ H ?_ trivial _ ?_⟩
  · refine ⟨.refl _ _, ?_, fun i kk o h1 h2 => ?_, fun i j d e a' h1 => ?_⟩
    · unfold L2.start
      simp [hN]
    · match i with
      | 0 =>
        simp at h1
        subst h1
        unfold L2.start at h2
        simp at h2
        exact h2.symm
      | 1 =>
        simp at h1
        subst h1
        unfold L2.start at h2
        simp at h2
        exact ⟨.int many, h2.symm, .int _⟩
      | i + 2 =>
        simp only [List.getElem?_cons_succ, List.getElem?_replicate] at h1
        split at h1
        · cases h1; trivial
        · cases h1
    · match i with
      | 0 => simp at h1
      | 1 => simp at h1
      | i + 2 =>
        simp only [List.getElem?_cons_succ, List.getElem?_replicate] at h1
        split at h1 <;> cases h1
  · intro v H' g1 _ p
    exact q v H' (fun a o e => g1.kp a o e fun z => z.elim) p
end
section
variable {S : Type} {m : Type → Type} [Monad m] [MR m S] {γ α β δ : Type} [Py α] [Py β] [Py δ]
variable {X : Cx} {W : Wd S} {H0 : Hp} {ss : List (SK γ)} {a b c : Expr} {pos : Pos}
/-- x, y, z = a, b, c: plain local names -/
theorem S_par3 {x y z : Str} {px py pz pt : Pos} {kt k2 : Nat} {pt2 : Pos} (i j l : Nat) [Imm α] [Imm β] [Imm δ] {fa : γ → m α} {fb : γ → m β} {fc : γ → m δ} (n0 : NS a) (n1 : NS b) (n2 : NS c) (ha : EV X W (Rr X.K W.Av H0 ss) a fa) (hb : EV X W (Rr X.K W.Av H0 ss) b fb) (hcc : EV X W (Rr X.K W.Av H0 ss) c fc)
    (hc : X.calm = true) (hN : X.N.Nodup) (hi : X.N[i]? = some x) (hj : X.N[j]? = some y) (hl : X.N[l]? = some z) (hij : i ≠ j) (hil : i ≠ l) (hjl : j ≠ l)
    (hx : X.env.scope.names.lookup x = some .local) (hy : X.env.scope.names.lookup y = some .local) (hz : X.env.scope.names.lookup z = some .local)
    (hw : swappedStores [.Tuple [.Name x px, .Name y py, .Name z pz] kt pt] (.Tuple [a, b, c] k2 pt2) X.env = pure (some [x, y, z]))
    (hs : swapsWithSole [.Tuple [.Name x px, .Name y py, .Name z pz] kt pt] (.Tuple [a, b, c] k2 pt2) pos.line X.env = pure false) :
    SN X W H0 ss (.Assign [.Tuple [.Name x px, .Name y py, .Name z pz] kt pt] (.Tuple [a, b, c] k2 pt2) pos) (setK [(i, fun g' : γ × T3 α β δ => enc g'.2.a), (j, fun g' => enc g'.2.b), (l, fun g' => enc g'.2.c)] (ss.map (SK.cm Prod.fst))) (fun g => fa g >>= fun x => fb g >>= fun y => fc g >>= fun z => pure (T3.mk x y z)) := fun g s t s' rn σ H hR hW D nd => by
  obtain ⟨z0, s1, e0, rn⟩ := run_bind_some rn
  obtain ⟨z1, s2, e1, rn⟩ := run_bind_some rn
  obtain ⟨z2, s3, e2, rn⟩ := run_bind_some rn
  obtain ⟨rfl, rfl⟩ := run_pure_some rn
  refine wS.of (ps_par3 hc hN hi hj hl hij hil hjl hx hy hz (pa_cons (peW a) (pa_cons (peW b) (pa_cons (peW c) pa_nil (n2 _ _)) (n1 _ _)) (n0 _ _)) hw hs) ?_
  refine EV.two Rr.stb ha hb e0 e1 hR hW fun v u H1 g1 w1 p1 p2 => hcc g s2 z2 _ e2 σ H1 (hR.st g1) w1 _ fun r H2 g2 w2 p3 => ⟨v, u, r, rfl, ?_⟩
  have g3 := g1.trans g2
  have r1 := ((hR.st g3).cm (Prod.fst : γ × T3 α β δ → γ) (g' := (g, ⟨z0, z1, z2⟩)) rfl)
  obtain ⟨r2, o2⟩ := Rr.setK (ups := [(i, fun g' : γ × T3 α β δ => enc g'.2.a), (j, fun g' => enc g'.2.b), (l, fun g' => enc g'.2.c)]) (vs := [v, u, r]) (.cons ((p1.mono g2).any (Imm.imm z0)) (.cons ((p2.mono g2).any (Imm.imm z1)) (.cons (p3.any (Imm.imm z2)) .nil))) r1
  exact nd _ H2 ⟨(Tr.of_gr g3).g, fun a z => .inl (Own.cm (o2 a z))⟩ w2 r2
end
end TC

namespace TC
open PySem PySem.Spec PyProof.Rows L2
open Py (enc)
theorem ints_inv {K : PySem.W.Frag} {A : Addr → Prop} {H : Hp} : ∀ {vs : List V} {ns : List Int}, RpAll K A H vs (ns.map enc) → vs = ns.map V.int
  | [], [], _ => rfl
  | [], _ :: _, h => nomatch h
  | _ :: _, [], h => nomatch h
  | v :: vs, n :: ns, .cons p t => by
    have e : v = .int n := p.int_inv
    rw [e, ints_inv t]; rfl
theorem valV_at {d : Addr} {n : Int} : valV [(kDraws, V.ref d), (kAt, V.int n)] kAt = some (.int n) := by
  have h1 : ¬ (kDraws = kAt) := by decide +kernel
  rw [valV_neg h1, valV_pos rfl]
theorem valV_draws {d : Addr} {n : Int} : valV [(kDraws, V.ref d), (kAt, V.int n)] kDraws = some (.ref d) := valV_pos rfl
theorem putK_at {d : Addr} {n k : Int} : putK [(kDraws, V.ref d), (kAt, V.int n)] kAt (.int k) = [(kDraws, V.ref d), (kAt, V.int k)] := by
  have h1 : ¬ (kDraws = kAt) := by decide +kernel
  simp [putK, h1]
theorem merge_w {d : Addr} {n : Int} : mergeK [] [(kDraws, V.ref d), (kAt, V.int n)] = [(kDraws, V.ref d), (kAt, V.int n)] := by
  have h1 : ¬ (kDraws = kAt) := by decide +kernel
  simp [mergeK, putK, h1]
theorem same_new {H : Hp} {p : Addr} {o : HO} (n : H p = none) : Same H (upd H p o) := fun b u e => by rw [upd_ne (ne_of_none e n)]; exact e
def spLaw (K : PySem.W.Frag) : Sp := fun vs H Q _ => ∃ (a : Addr) (ns : List Int), vs = [.ref a] ∧ SqL K H a (ns.map V.int) ∧ ns.length ≤ 63 ∧ ∀ H', Q (.bl true) H'
end TC

namespace TC
open PySem PySem.Spec PyProof.Rows L2
section
variable {m : Type → Type} {S : Type} [Monad m] [MR m S] {α β δ ρ : Type}
def wp (p : m α) (s : S) (Q : α → S → Prop) : Prop := ∃ a s', MR.run p s = some (a, s') ∧ Q a s'
theorem wp_pure {a : α} {s : S} {Q : α → S → Prop} (h : Q a s) : wp (pure a : m α) s Q := ⟨a, s, MR.run_pure a s, h⟩
theorem wp_bind {p : m α} {f : α → m β} {s : S} {Q : β → S → Prop} (h : wp p s fun a s' => wp (f a) s' Q) : wp (p >>= f) s Q := by
  obtain ⟨a, s', h1, b, s2, h2, q⟩ := h
  exact ⟨b, s2, by rw [MR.run_bind, h1]; exact h2, q⟩
theorem wp_lift {o : Option α} {a : α} {s : S} {Q : α → S → Prop} (h : o = some a) (q : Q a s) : wp (MR.lift o : m α) s Q := ⟨a, s, by rw [MR.run_lift, h]; rfl, q⟩
theorem wp_ite {c : Prop} [Decidable c] {p q : m α} {s : S} {Q : α → S → Prop} (h1 : c → wp p s Q) (h2 : ¬ c → wp q s Q) : wp (if c then p else q) s Q := by
  by_cases h : c
  · rw [if_pos h]; exact h1 h
  · rw [if_neg h]; exact h2 h
theorem wp_mono {p : m α} {s : S} {Q R : α → S → Prop} (h : wp p s Q) (k : ∀ a s', Q a s' → R a s') : wp p s R := by
  obtain ⟨a, s', h1, q⟩ := h
  exact ⟨a, s', h1, k a s' q⟩
theorem wp_seq {p : m α} {f : α → m β} {s : S} (R : α → S → Prop) {Q : β → S → Prop} (h : wp p s R) (k : ∀ a s', R a s' → wp (f a) s' Q) : wp (p >>= f) s Q := wp_bind (wp_mono h k)
/-- a loop: an invariant with the count of what is done -/
theorem wp_fold {f : δ → β → m δ} (I : Nat → δ → S → Prop) : ∀ (xs : List β) (i : Nat) (d : δ) (s : S) {Q : δ → S → Prop}, I i d s → (∀ (j : Nat) x d s, xs[j]? = some x → I (i + j) d s → wp (f d x) s (I (i + j + 1))) → (∀ d s, I (i + xs.length) d s → Q d s) → wp (foldM' f d xs) s Q
  | [], i, d, s, Q, h, _, q => wp_pure (q d s h)
  | x :: xs, i, d, s, Q, h, st, q => by
    unfold foldM'
    refine wp_bind (wp_mono (st 0 x d s rfl h) fun d' s' h' => ?_)
    refine wp_fold I xs (i + 1) d' s' h' (fun j y d2 s2 e h2 => ?_) (fun d2 s2 h2 => q d2 s2 ?_)
    · have := st (j + 1) y d2 s2 e (by rw [show i + (j + 1) = i + 1 + j by omega]; exact h2)
      rw [show i + (j + 1) + 1 = i + 1 + j + 1 by omega] at this
      exact this
    · rw [List.length_cons, show i + (xs.length + 1) = i + 1 + xs.length by omega]; exact h2
theorem wp_while {c : δ → m Bool} {b : δ → m δ} (I : δ → S → Prop) (μ : δ → Nat) {Q : δ → S → Prop} (hI : ∀ d s, I d s → wp (c d) s fun t s' => if t = true then wp (b d) s' (fun d' s2 => I d' s2 ∧ μ d' < μ d) else Q d s') :
    ∀ (n : Nat) (d : δ) (s : S), μ d < n → I d s → wp (whileM c b n d) s Q
  | 0, d, s, h, _ => absurd h (Nat.not_lt_zero _)
  | n + 1, d, s, h, i => by
    unfold whileM
    refine wp_bind (wp_mono (hI d s i) fun t s' h' => ?_)
    by_cases ht : t = true
    · rw [if_pos ht] at h' ⊢
      exact wp_bind (wp_mono h' fun d' s2 h2 => wp_while I μ hI n d' s2 (by omega) h2.1)
    · rw [if_neg ht] at h' ⊢
      exact wp_pure h'
end
theorem wp_opt {α : Type} {o : Option α} {Q : α → Unit → Prop} (h : wp o () Q) : ∃ a, o = some a ∧ Q a () := by
  obtain ⟨a, s', h1, q⟩ := h
  refine ⟨a, ?_, q⟩
  cases o with
  | none => cases h1
  | some b => cases h1; rfl
theorem wp_eq {α : Type} {o : Option α} {x : α} (h : wp o () fun r _ => r = x) : o = some x := by
  obtain ⟨r, hr, e⟩ := wp_opt h
  rw [hr, e]
theorem wp_sm {S α : Type} {p : SM S α} {s : S} {Q : α → S → Prop} (h : wp p s Q) : ∃ a s', p s = some (a, s') ∧ Q a s' := h
theorem atI_ok {α : Type} {xs : List α} {i : Int} {x : α} (h0 : 0 ≤ i) (h : xs[i.toNat]? = some x) : atI xs i = some x := by
  have hl : i.toNat < xs.length := by
    rcases Nat.lt_or_ge i.toNat xs.length with q | q
    · exact q
    · rw [List.getElem?_eq_none q] at h; cases h
  unfold atI ixN
  rw [if_pos h0, if_pos (by omega)]
  exact h
theorem wp_nxt {ds : List Int} {k n : Int} {Q : Int → Int → Prop} (hk : 0 < k) (hn : 0 ≤ n) (h : ∀ r n', 0 ≤ n' → 0 ≤ r → r < k → Q r n') : wp (nxt ds k) n Q := by
  by_cases c : (ds.length : Int) < n + 1
  · refine ⟨0, n + 1, ?_, h _ _ (by omega) (by omega) hk⟩
    show nxt ds k n = _
    unfold nxt
    rw [if_pos c]
  · have hz : ∃ x, atI ds n = some x := by
      cases q : ds[n.toNat]? with
      | some x => exact ⟨x, atI_ok hn q⟩
      | none =>
        have := List.getElem?_eq_none_iff.mp q
        omega
    obtain ⟨x, hx⟩ := hz
    refine ⟨x.fmod k, n + 1, ?_, h _ _ (by omega) (Int.fmod_nonneg_of_pos _ hk) (Int.fmod_lt_of_pos _ hk)⟩
    show nxt ds k n = _
    unfold nxt
    rw [if_neg c, hx]
    show (modM x k).map _ = _
    unfold modM
    rw [if_pos (by omega)]
    rfl
theorem p200 : 2 ^ 200 ≤ 2 ^ 9000 := Nat.pow_le_pow_right (by decide) (by decide)
theorem mulM_ok {i j : Int} (h : i.natAbs < 2 ^ 200 := by omega) (k : j.natAbs < 2 ^ 200 := by omega) : mulM i j = some (i * j) := by
  unfold mulM; rw [if_pos ⟨Nat.lt_of_lt_of_le h p200, Nat.lt_of_lt_of_le k p200⟩]
theorem modM_ok {i j : Int} (h : 0 < j := by omega) : modM i j = some (i % j) := by
  unfold modM; rw [if_pos (by omega), Int.fmod_eq_emod_of_nonneg _ (Int.le_of_lt h)]
theorem divM_ok {i j : Int} (h : 0 < j := by omega) (k : j < 1073741824 := by omega) : divM i j = some (i / j) := by
  unfold divM; rw [if_pos (by omega), Int.fdiv_eq_ediv_of_nonneg _ (Int.le_of_lt h)]
theorem rngM_ok {a b : Int} (h1 : -1000000 ≤ a := by omega) (h2 : a ≤ 1000000 := by omega) (h3 : -1000000 ≤ b := by omega) (h4 : b ≤ 1000000 := by omega) : rngM a b = some (rngL a b) := by
  unfold rngM; rw [if_pos ⟨h1, h2, h3, h4⟩]
theorem appM_ok {α : Type} {xs : Ls α} {y : α} (h : xs.l.length < 1000000 := by omega) : appM xs y = some ⟨xs.l ++ [y]⟩ := by unfold appM; rw [if_pos h]
end TC

namespace Law
open PySem PySem.Spec PyProof.Rows L2 TC
open Py (enc)
def topS (i : Nat) : Stmt := PySem.Challenge.pw_tidestold_k15_whole_known_two_ships_that.main.body.getD i (.Pass ⟨0, 0, 0, 0⟩)
abbrev s_common : Stmt := topS 1
abbrev N_common : List Str := ["a", "b"]
theorem sc_common : FnScope N_common ["a", "b"] (defScope s_common) := ⟨rfl, rfl, rfl, by decide +kernel, rfl, by decide +kernel, by decide +kernel⟩
theorem ok_common : okNames N_common = true := by decide +kernel
def m_common (x0 : Int) (x1 : Int) : Option Int :=
  (whileM (fun d1 => ((pure d1.2) >>= fun v2 => (pure (0 : Int)) >>= fun v3 => MR.lift (neM v2 v3))) (fun d1 =>
  ((pure d1.2) >>= fun v7 => ((pure d1.1) >>= fun v5 => (pure d1.2) >>= fun v6 => MR.lift (modM v5 v6)) >>= fun v8 => pure (v7, v8)) >>= fun d4 =>
  (pure (d4.1, d4.2))) fuel (x0, x1)) >>= fun d9 =>
  ((pure d9.1) >>= fun v10 => pure (absI v10))
theorem fn_common {P : Program} {w : World} {K : PySem.W.Frag} {mg : Str → Option Value} {base : Heap} {f_ : Addr} {fd : FuncData} (F : Fun K "common" "common" s_common f_ fd) (b_abs : mg "abs" = none)   : FnOk P w K mg base CX0 1 f_ fd ["a", "b"] (spD K 2 (M2 m_common)) := by
  refine fn_D (k := 0) F sc_common (γ := (Int × Int)) [.v (fun g => enc g.1), .v (fun g => enc g.2)] (fun g => m_common g.1 g.2) _ rfl rfl ?_ ?_
  · rintro ds d ⟨x0, x1, rfl, r, h, rfl⟩
    exact ⟨rfl, (x0, x1), r, (.v rfl (.v rfl .nil)), h, rfl⟩
  · intro cdv A outer s H E hr
    have hu := hr.units
    unfold m_common
    exact (B_seq (S_while' (δ := (Int × Int)) (fun g : (Int × Int) => (g.1, g.2)) fuel (ssL := [.v (fun g => enc g.2.1), .v (fun g => enc g.2.2)]) (.v (fun _ => rfl) (.v (fun _ => rfl) .nil))
  (T_cmp (C_ne hu Rr.stb (E_v 1 ok_common (.inl rfl) rfl (.inl rfl)) E_int))
  (B_seq (S_par2 0 1 (fun _ _ => rfl) (fun _ _ => rfl) (E_v 1 ok_common (.inl rfl) rfl (.inl rfl)) (E_mod Rr.stb (E_v 0 ok_common (.inl rfl) rfl (.inl rfl)) (E_v 1 ok_common (.inl rfl) rfl (.inl rfl))) rfl sc_common.nd rfl rfl (by decide) rfl rfl rfl rfl)
  (B_end (.v (fun _ => rfl) (.v (fun _ => rfl) .nil))) NdN.mono) PassesOwn.never)
  (B_ret (EV.f (E_abs b_abs rfl rfl Rr.stb (fun _ _ => rfl) (E_v 0 ok_common (.inl rfl) rfl (.inl rfl))))) NdR.mono)

abbrev s_fraction : Stmt := topS 2
abbrev N_fraction : List Str := ["a", "b", "by"]
theorem sc_fraction : FnScope N_fraction ["a", "b"] (defScope s_fraction) := ⟨rfl, rfl, rfl, by decide +kernel, rfl, by decide +kernel, by decide +kernel⟩
theorem ok_fraction : okNames N_fraction = true := by decide +kernel
def m_fraction (x0 : Int) (x1 : Int) : Option (Int × Int) :=
  ((pure x0) >>= fun v2 => (pure x1) >>= fun v3 => MR.lift (m_common v2 v3)) >>= fun d1 =>
  (((pure x1) >>= fun v4 => (pure (0 : Int)) >>= fun v5 => pure (decide (v4 < v5))) >>= fun b6 => if b6 = true then ((pure d1) >>= fun v8 => pure (-v8)) >>= fun d7 =>
  (pure d7) else (pure d1)) >>= fun d9 =>
  (((pure x0) >>= fun v10 => (pure d9) >>= fun v11 => MR.lift (divM v10 v11)) >>= fun v14 => ((pure x1) >>= fun v12 => (pure d9) >>= fun v13 => MR.lift (divM v12 v13)) >>= fun v15 => pure (v14, v15))
theorem fn_fraction {P : Program} {w : World} {K : PySem.W.Frag} {mg : Str → Option Value} {base : Heap} {f_ : Addr} {fd : FuncData} (F : Fun K "fraction" "fraction" s_fraction f_ fd)   (D_common : ∀ A : Around, Room 1 A → Dfn P w K mg base A "common" 2 (M2 m_common)) : FnOk P w K mg base CX0 2 f_ fd ["a", "b"] (spD K 2 (M2 m_fraction)) := by
  refine fn_D (k := 1) F sc_fraction (γ := (Int × Int)) [.v (fun g => enc g.1), .v (fun g => enc g.2), .u] (fun g => m_fraction g.1 g.2) _ rfl rfl ?_ ?_
  · rintro ds d ⟨x0, x1, rfl, r, h, rfl⟩
    exact ⟨rfl, (x0, x1), r, (.v rfl (.v rfl (.u .nil))), h, rfl⟩
  · intro cdv A outer s H E hr
    have hu := hr.units
    have D_common := D_common _ hr
    unfold m_fraction
    exact (B_seq (S_asg 2 (EV.f (E_callI2 D_common rfl rfl Rr.stb (fun _ _ => rfl) (fun _ _ => rfl) (E_v 0 ok_fraction (.inl rfl) rfl (.inl rfl)) (E_v 1 ok_fraction (.inl rfl) rfl (.inl rfl)))) sc_fraction.nd rfl (.inl rfl) rfl rfl)
  (B_seq (S_if (δ := Int) (ss' := [.v (fun g => enc g.1.1.1), .v (fun g => enc g.1.1.2), .v (fun g => enc g.2)]) (T_cmp (C_lt Rr.stb (E_v 1 ok_fraction (.inl rfl) rfl (.inl rfl)) E_int))
  (B_seq (S_asg 2 (EV.f (E_neg (E_v 2 ok_fraction (.inl rfl) rfl (.inl rfl)))) sc_fraction.nd rfl (.inl rfl) rfl rfl)
  (B_end (.v (fun _ => rfl) (.v (fun _ => rfl) (.v (fun _ => rfl) .nil)))) NdN.mono)
  (B_end (.v (fun _ => rfl) (.v (fun _ => rfl) (.v (fun _ => rfl) .nil)))))
  (B_ret (EV.f (E_tup2 Rr.stb (fun _ _ => rfl) (fun _ _ => rfl) (E_div Rr.stb (E_v 0 ok_fraction (.inl rfl) rfl (.inl rfl)) (E_v 2 ok_fraction (.inl rfl) rfl (.inl rfl))) (E_div Rr.stb (E_v 1 ok_fraction (.inl rfl) rfl (.inl rfl)) (E_v 2 ok_fraction (.inl rfl) rfl (.inl rfl)))))) NdR.mono) NdR.mono)

abbrev s_plus : Stmt := topS 3
abbrev N_plus : List Str := ["one", "other"]
theorem sc_plus : FnScope N_plus ["one", "other"] (defScope s_plus) := ⟨rfl, rfl, rfl, by decide +kernel, rfl, by decide +kernel, by decide +kernel⟩
theorem ok_plus : okNames N_plus = true := by decide +kernel
def m_plus (x0 : (Int × Int)) (x1 : (Int × Int)) : Option (Int × Int) :=
  (((((pure x0) >>= fun v1 => pure v1.1) >>= fun v3 => ((pure x1) >>= fun v2 => pure v2.2) >>= fun v4 => MR.lift (mulM v3 v4)) >>= fun v9 => (((pure x1) >>= fun v5 => pure v5.1) >>= fun v7 => ((pure x0) >>= fun v6 => pure v6.2) >>= fun v8 => MR.lift (mulM v7 v8)) >>= fun v10 => pure (v9 + v10)) >>= fun v15 => (((pure x0) >>= fun v11 => pure v11.2) >>= fun v13 => ((pure x1) >>= fun v12 => pure v12.2) >>= fun v14 => MR.lift (mulM v13 v14)) >>= fun v16 => MR.lift (m_fraction v15 v16))
theorem fn_plus {P : Program} {w : World} {K : PySem.W.Frag} {mg : Str → Option Value} {base : Heap} {f_ : Addr} {fd : FuncData} (F : Fun K "plus" "plus" s_plus f_ fd)   (D_fraction : ∀ A : Around, Room 2 A → Dfn P w K mg base A "fraction" 2 (M2 m_fraction)) : FnOk P w K mg base CX0 3 f_ fd ["one", "other"] (spD K 2 (M2 m_plus)) := by
  refine fn_D (k := 2) F sc_plus (γ := ((Int × Int) × (Int × Int))) [.v (fun g => enc g.1), .v (fun g => enc g.2)] (fun g => m_plus g.1 g.2) _ rfl rfl ?_ ?_
  · rintro ds d ⟨x0, x1, rfl, r, h, rfl⟩
    exact ⟨rfl, (x0, x1), r, (.v rfl (.v rfl .nil)), h, rfl⟩
  · intro cdv A outer s H E hr
    have hu := hr.units
    have D_fraction := D_fraction _ hr
    unfold m_plus
    exact (B_ret (EV.f (E_callI2 D_fraction rfl rfl Rr.stb (fun _ _ => rfl) (fun _ _ => rfl) (E_add Rr.stb (E_mul Rr.stb (E_fld (fun t : (Int × Int) => t.1) 0 (E_v 0 ok_plus (.inl rfl) rfl (.inl rfl))) (E_fld (fun t : (Int × Int) => t.2) 1 (E_v 1 ok_plus (.inl rfl) rfl (.inl rfl)))) (E_mul Rr.stb (E_fld (fun t : (Int × Int) => t.1) 0 (E_v 1 ok_plus (.inl rfl) rfl (.inl rfl))) (E_fld (fun t : (Int × Int) => t.2) 1 (E_v 0 ok_plus (.inl rfl) rfl (.inl rfl))))) (E_mul Rr.stb (E_fld (fun t : (Int × Int) => t.2) 1 (E_v 0 ok_plus (.inl rfl) rfl (.inl rfl))) (E_fld (fun t : (Int × Int) => t.2) 1 (E_v 1 ok_plus (.inl rfl) rfl (.inl rfl)))))))

abbrev s_times : Stmt := topS 4
abbrev N_times : List Str := ["one", "other"]
theorem sc_times : FnScope N_times ["one", "other"] (defScope s_times) := ⟨rfl, rfl, rfl, by decide +kernel, rfl, by decide +kernel, by decide +kernel⟩
theorem ok_times : okNames N_times = true := by decide +kernel
def m_times (x0 : (Int × Int)) (x1 : (Int × Int)) : Option (Int × Int) :=
  ((((pure x0) >>= fun v1 => pure v1.1) >>= fun v3 => ((pure x1) >>= fun v2 => pure v2.1) >>= fun v4 => MR.lift (mulM v3 v4)) >>= fun v9 => (((pure x0) >>= fun v5 => pure v5.2) >>= fun v7 => ((pure x1) >>= fun v6 => pure v6.2) >>= fun v8 => MR.lift (mulM v7 v8)) >>= fun v10 => MR.lift (m_fraction v9 v10))
theorem fn_times {P : Program} {w : World} {K : PySem.W.Frag} {mg : Str → Option Value} {base : Heap} {f_ : Addr} {fd : FuncData} (F : Fun K "times" "times" s_times f_ fd)   (D_fraction : ∀ A : Around, Room 2 A → Dfn P w K mg base A "fraction" 2 (M2 m_fraction)) : FnOk P w K mg base CX0 3 f_ fd ["one", "other"] (spD K 2 (M2 m_times)) := by
  refine fn_D (k := 2) F sc_times (γ := ((Int × Int) × (Int × Int))) [.v (fun g => enc g.1), .v (fun g => enc g.2)] (fun g => m_times g.1 g.2) _ rfl rfl ?_ ?_
  · rintro ds d ⟨x0, x1, rfl, r, h, rfl⟩
    exact ⟨rfl, (x0, x1), r, (.v rfl (.v rfl .nil)), h, rfl⟩
  · intro cdv A outer s H E hr
    have hu := hr.units
    have D_fraction := D_fraction _ hr
    unfold m_times
    exact (B_ret (EV.f (E_callI2 D_fraction rfl rfl Rr.stb (fun _ _ => rfl) (fun _ _ => rfl) (E_mul Rr.stb (E_fld (fun t : (Int × Int) => t.1) 0 (E_v 0 ok_times (.inl rfl) rfl (.inl rfl))) (E_fld (fun t : (Int × Int) => t.1) 0 (E_v 1 ok_times (.inl rfl) rfl (.inl rfl)))) (E_mul Rr.stb (E_fld (fun t : (Int × Int) => t.2) 1 (E_v 0 ok_times (.inl rfl) rfl (.inl rfl))) (E_fld (fun t : (Int × Int) => t.2) 1 (E_v 1 ok_times (.inl rfl) rfl (.inl rfl)))))))

abbrev s_is_less : Stmt := topS 5
abbrev N_is_less : List Str := ["one", "other"]
theorem sc_is_less : FnScope N_is_less ["one", "other"] (defScope s_is_less) := ⟨rfl, rfl, rfl, by decide +kernel, rfl, by decide +kernel, by decide +kernel⟩
theorem ok_is_less : okNames N_is_less = true := by decide +kernel
def m_is_less (x0 : (Int × Int)) (x1 : (Int × Int)) : Option Bool :=
  ((((pure x0) >>= fun v1 => pure v1.1) >>= fun v3 => ((pure x1) >>= fun v2 => pure v2.2) >>= fun v4 => MR.lift (mulM v3 v4)) >>= fun v9 => (((pure x1) >>= fun v5 => pure v5.1) >>= fun v7 => ((pure x0) >>= fun v6 => pure v6.2) >>= fun v8 => MR.lift (mulM v7 v8)) >>= fun v10 => pure (decide (v9 < v10)))
theorem fn_is_less {P : Program} {w : World} {K : PySem.W.Frag} {mg : Str → Option Value} {base : Heap} {f_ : Addr} {fd : FuncData} (F : Fun K "is_less" "is_less" s_is_less f_ fd)    : FnOk P w K mg base CX0 1 f_ fd ["one", "other"] (spD K 2 (M2 m_is_less)) := by
  refine fn_D (k := 0) F sc_is_less (γ := ((Int × Int) × (Int × Int))) [.v (fun g => enc g.1), .v (fun g => enc g.2)] (fun g => m_is_less g.1 g.2) _ rfl rfl ?_ ?_
  · rintro ds d ⟨x0, x1, rfl, r, h, rfl⟩
    exact ⟨rfl, (x0, x1), r, (.v rfl (.v rfl .nil)), h, rfl⟩
  · intro cdv A outer s H E hr
    have hu := hr.units
    unfold m_is_less
    exact (B_ret (EV.f (E_cmp (C_lt Rr.stb (E_mul Rr.stb (E_fld (fun t : (Int × Int) => t.1) 0 (E_v 0 ok_is_less (.inl rfl) rfl (.inl rfl))) (E_fld (fun t : (Int × Int) => t.2) 1 (E_v 1 ok_is_less (.inl rfl) rfl (.inl rfl)))) (E_mul Rr.stb (E_fld (fun t : (Int × Int) => t.1) 0 (E_v 1 ok_is_less (.inl rfl) rfl (.inl rfl))) (E_fld (fun t : (Int × Int) => t.2) 1 (E_v 0 ok_is_less (.inl rfl) rfl (.inl rfl))))))))

abbrev s_at_hour : Stmt := topS 8
abbrev N_at_hour : List Str := ["course", "t", "x", "y", "dx", "dy"]
theorem sc_at_hour : FnScope N_at_hour ["course", "t"] (defScope s_at_hour) := ⟨rfl, rfl, rfl, by decide +kernel, rfl, by decide +kernel, by decide +kernel⟩
theorem ok_at_hour : okNames N_at_hour = true := by decide +kernel
def m_at_hour (x0 : (List Int)) (x1 : (Int × Int)) : Option ((Int × Int) × (Int × Int)) :=
  ((pure x0) >>= fun v2 => MR.lift (un4 v2)) >>= fun d1 =>
  ((((pure d1.a) >>= fun v3 => (pure (1 : Int)) >>= fun v4 => pure (v3, v4)) >>= fun v9 => ((pure x1) >>= fun v7 => ((pure d1.c) >>= fun v5 => (pure (1 : Int)) >>= fun v6 => pure (v5, v6)) >>= fun v8 => MR.lift (m_times v7 v8)) >>= fun v10 => MR.lift (m_plus v9 v10)) >>= fun v19 => (((pure d1.b) >>= fun v11 => (pure (1 : Int)) >>= fun v12 => pure (v11, v12)) >>= fun v17 => ((pure x1) >>= fun v15 => ((pure d1.d) >>= fun v13 => (pure (1 : Int)) >>= fun v14 => pure (v13, v14)) >>= fun v16 => MR.lift (m_times v15 v16)) >>= fun v18 => MR.lift (m_plus v17 v18)) >>= fun v20 => pure (v19, v20))
theorem fn_at_hour {P : Program} {w : World} {K : PySem.W.Frag} {mg : Str → Option Value} {base : Heap} {f_ : Addr} {fd : FuncData} (F : Fun K "at_hour" "at_hour" s_at_hour f_ fd)   (D_plus : ∀ A : Around, Room 3 A → Dfn P w K mg base A "plus" 2 (M2 m_plus)) (D_times : ∀ A : Around, Room 3 A → Dfn P w K mg base A "times" 2 (M2 m_times)) : FnOk P w K mg base CX0 4 f_ fd ["course", "t"] (spD K 2 (M2 m_at_hour)) := by
  refine fn_D (k := 3) F sc_at_hour (γ := ((List Int) × (Int × Int))) [.v (fun g => enc g.1), .v (fun g => enc g.2), .u, .u, .u, .u] (fun g => m_at_hour g.1 g.2) _ rfl rfl ?_ ?_
  · rintro ds d ⟨x0, x1, rfl, r, h, rfl⟩
    exact ⟨rfl, (x0, x1), r, (.v rfl (.v rfl (.u (.u (.u (.u .nil)))))), h, rfl⟩
  · intro cdv A outer s H E hr
    have hu := hr.units
    have D_plus := D_plus _ hr
    have D_times := D_times _ hr
    unfold m_at_hour
    exact (B_seq (S_asgT (E_cast un4 (E_v 0 ok_at_hour (.inl rfl) rfl (.inl rfl)) un4_ok) (G_tup4 2 3 4 5 (fun t : (T4 Int Int Int Int) => enc t.a) (fun t : (T4 Int Int Int Int) => enc t.b) (fun t : (T4 Int Int Int Int) => enc t.c) (fun t : (T4 Int Int Int Int) => enc t.d) rfl sc_at_hour.nd rfl rfl rfl rfl (.inl rfl) (.inl rfl) (.inl rfl) (.inl rfl) (.inl rfl) (.inl rfl) (.inl rfl) (.inl rfl)) rfl rfl rfl)
  (B_ret (EV.f (E_tup2 Rr.stb (fun _ _ => rfl) (fun _ _ => rfl) (E_callI2 D_plus rfl rfl Rr.stb (fun _ _ => rfl) (fun _ _ => rfl) (E_tup2 Rr.stb (fun _ _ => rfl) (fun _ _ => rfl) (E_v 2 ok_at_hour (.inl rfl) rfl (.inl rfl)) E_int) (E_callI2 D_times rfl rfl Rr.stb (fun _ _ => rfl) (fun _ _ => rfl) (E_v 1 ok_at_hour (.inl rfl) rfl (.inl rfl)) (E_tup2 Rr.stb (fun _ _ => rfl) (fun _ _ => rfl) (E_v 4 ok_at_hour (.inl rfl) rfl (.inl rfl)) E_int))) (E_callI2 D_plus rfl rfl Rr.stb (fun _ _ => rfl) (fun _ _ => rfl) (E_tup2 Rr.stb (fun _ _ => rfl) (fun _ _ => rfl) (E_v 3 ok_at_hour (.inl rfl) rfl (.inl rfl)) E_int) (E_callI2 D_times rfl rfl Rr.stb (fun _ _ => rfl) (fun _ _ => rfl) (E_v 1 ok_at_hour (.inl rfl) rfl (.inl rfl)) (E_tup2 Rr.stb (fun _ _ => rfl) (fun _ _ => rfl) (E_v 5 ok_at_hour (.inl rfl) rfl (.inl rfl)) E_int)))))) NdR.mono)

abbrev s_gap_of : Stmt := topS 9
abbrev N_gap_of : List Str := ["one", "other", "a", "b"]
theorem sc_gap_of : FnScope N_gap_of ["one", "other"] (defScope s_gap_of) := ⟨rfl, rfl, rfl, by decide +kernel, rfl, by decide +kernel, by decide +kernel⟩
theorem ok_gap_of : okNames N_gap_of = true := by decide +kernel
def m_gap_of (x0 : (List Int)) (x1 : (List Int)) : Option (List Int) :=
  ((((pure x0) >>= fun v1 => (pure x1) >>= fun v2 => pure (v1.zip v2)) >>= fun xs7 => mapL (fun y3 => ((pure y3.2) >>= fun v4 => (pure y3.1) >>= fun v5 => pure (v4 - v5))) xs7 >>= fun ys6 => pure (Ls.mk ys6)) >>= fun v8 => pure v8.l)
theorem fn_gap_of {P : Program} {w : World} {K : PySem.W.Frag} {mg : Str → Option Value} {base : Heap} {f_ : Addr} {fd : FuncData} (F : Fun K "gap_of" "gap_of" s_gap_of f_ fd) (b_tuple : mg "tuple" = none) (b_zip : mg "zip" = none)   : FnOk P w K mg base CX0 1 f_ fd ["one", "other"] (spD K 2 (M2 m_gap_of)) := by
  refine fn_D (k := 0) F sc_gap_of (γ := ((List Int) × (List Int))) [.v (fun g => enc g.1), .v (fun g => enc g.2), .u, .u] (fun g => m_gap_of g.1 g.2) _ rfl rfl ?_ ?_
  · rintro ds d ⟨x0, x1, rfl, r, h, rfl⟩
    exact ⟨rfl, (x0, x1), r, (.v rfl (.v rfl (.u (.u .nil)))), h, rfl⟩
  · intro cdv A outer s H E hr
    have hu := hr.units
    unfold m_gap_of
    exact (B_ret (EV.f (E_tupleL b_tuple rfl Rr.stb (fun _ _ => rfl) (EV.of_f (E_lc' [("a", 2), ("b", 3)] rfl sc_gap_of.nd (blkOk_by (N := N_gap_of) (sc := (defScope s_gap_of)) (by decide +kernel)) (I_zipT b_zip rfl (fun _ _ => rfl) (fun _ _ => rfl) (E_v 0 ok_gap_of (.inl rfl) rfl (.inl rfl)) (E_v 1 ok_gap_of (.inl rfl) rfl (.inl rfl))) (fun _ _ _ _ _ => (G_tup2 2 3 (fun t : (Int × Int) => enc t.1) (fun t : (Int × Int) => enc t.2) rfl sc_gap_of.nd rfl rfl (.inl rfl) (.inl rfl) (.inr rfl) (.inr rfl))) (fun _ h => h) (fun _ _ _ _ _ => (E_sub Rr.stb (E_v 3 ok_gap_of (.inl rfl) rfl (.inl rfl)) (E_v 2 ok_gap_of (.inl rfl) rfl (.inl rfl)))) (fun _ => rfl))))))

abbrev s_square_at : Stmt := topS 10
abbrev N_square_at : List Str := ["one", "other", "t", "x", "y"]
theorem sc_square_at : FnScope N_square_at ["one", "other", "t"] (defScope s_square_at) := ⟨rfl, rfl, rfl, by decide +kernel, rfl, by decide +kernel, by decide +kernel⟩
theorem ok_square_at : okNames N_square_at = true := by decide +kernel
def m_square_at (x0 : (List Int)) (x1 : (List Int)) (x2 : (Int × Int)) : Option (Int × Int) :=
  (((pure x0) >>= fun v2 => (pure x1) >>= fun v3 => MR.lift (m_gap_of v2 v3)) >>= fun v4 => (pure x2) >>= fun v5 => MR.lift (m_at_hour v4 v5)) >>= fun d1 =>
  (((pure d1.1) >>= fun v6 => (pure d1.1) >>= fun v7 => MR.lift (m_times v6 v7)) >>= fun v10 => ((pure d1.2) >>= fun v8 => (pure d1.2) >>= fun v9 => MR.lift (m_times v8 v9)) >>= fun v11 => MR.lift (m_plus v10 v11))
theorem fn_square_at {P : Program} {w : World} {K : PySem.W.Frag} {mg : Str → Option Value} {base : Heap} {f_ : Addr} {fd : FuncData} (F : Fun K "square_at" "square_at" s_square_at f_ fd)   (D_at_hour : ∀ A : Around, Room 4 A → Dfn P w K mg base A "at_hour" 2 (M2 m_at_hour)) (D_gap_of : ∀ A : Around, Room 4 A → Dfn P w K mg base A "gap_of" 2 (M2 m_gap_of)) (D_plus : ∀ A : Around, Room 4 A → Dfn P w K mg base A "plus" 2 (M2 m_plus)) (D_times : ∀ A : Around, Room 4 A → Dfn P w K mg base A "times" 2 (M2 m_times)) : FnOk P w K mg base CX0 5 f_ fd ["one", "other", "t"] (spD K 3 (M3 m_square_at)) := by
  refine fn_D (k := 4) F sc_square_at (γ := (((List Int) × (List Int)) × (Int × Int))) [.v (fun g => enc g.1.1), .v (fun g => enc g.1.2), .v (fun g => enc g.2), .u, .u] (fun g => m_square_at g.1.1 g.1.2 g.2) _ rfl rfl ?_ ?_
  · rintro ds d ⟨x0, x1, x2, rfl, r, h, rfl⟩
    exact ⟨rfl, ((x0, x1), x2), r, (.v rfl (.v rfl (.v rfl (.u (.u .nil))))), h, rfl⟩
  · intro cdv A outer s H E hr
    have hu := hr.units
    have D_at_hour := D_at_hour _ hr
    have D_gap_of := D_gap_of _ hr
    have D_plus := D_plus _ hr
    have D_times := D_times _ hr
    unfold m_square_at
    exact (B_seq (S_asgT (E_callI2 D_at_hour rfl rfl Rr.stb (fun _ _ => rfl) (fun _ _ => rfl) (E_callI2 D_gap_of rfl rfl Rr.stb (fun _ _ => rfl) (fun _ _ => rfl) (E_v 0 ok_square_at (.inl rfl) rfl (.inl rfl)) (E_v 1 ok_square_at (.inl rfl) rfl (.inl rfl))) (E_v 2 ok_square_at (.inl rfl) rfl (.inl rfl))) (G_tup2 3 4 (fun t : ((Int × Int) × (Int × Int)) => enc t.1) (fun t : ((Int × Int) × (Int × Int)) => enc t.2) rfl sc_square_at.nd rfl rfl (.inl rfl) (.inl rfl) (.inl rfl) (.inl rfl)) rfl rfl rfl)
  (B_ret (EV.f (E_callI2 D_plus rfl rfl Rr.stb (fun _ _ => rfl) (fun _ _ => rfl) (E_callI2 D_times rfl rfl Rr.stb (fun _ _ => rfl) (fun _ _ => rfl) (E_v 3 ok_square_at (.inl rfl) rfl (.inl rfl)) (E_v 3 ok_square_at (.inl rfl) rfl (.inl rfl))) (E_callI2 D_times rfl rfl Rr.stb (fun _ _ => rfl) (fun _ _ => rfl) (E_v 4 ok_square_at (.inl rfl) rfl (.inl rfl)) (E_v 4 ok_square_at (.inl rfl) rfl (.inl rfl)))))) NdR.mono)

abbrev s_closest : Stmt := topS 11
abbrev N_closest : List Str := ["one", "other", "x", "y", "dx", "dy", "speed", "t"]
theorem sc_closest : FnScope N_closest ["one", "other"] (defScope s_closest) := ⟨rfl, rfl, rfl, by decide +kernel, rfl, by decide +kernel, by decide +kernel⟩
theorem ok_closest : okNames N_closest = true := by decide +kernel
def m_closest (x0 : (List Int)) (x1 : (List Int)) : Option ((Int × Int) × (Int × Int)) :=
  (((pure x0) >>= fun v2 => (pure x1) >>= fun v3 => MR.lift (m_gap_of v2 v3)) >>= fun v4 => MR.lift (un4 v4)) >>= fun d1 =>
  (((pure d1.c) >>= fun v6 => (pure d1.c) >>= fun v7 => MR.lift (mulM v6 v7)) >>= fun v10 => ((pure d1.d) >>= fun v8 => (pure d1.d) >>= fun v9 => MR.lift (mulM v8 v9)) >>= fun v11 => pure (v10 + v11)) >>= fun d5 =>
  (((pure d5) >>= fun v13 => (pure (0 : Int)) >>= fun v14 => pure (decide (v14 < v13))) >>= fun v33 => if v33 = true then (((((pure d1.a) >>= fun v24 => (pure d1.c) >>= fun v25 => MR.lift (mulM v24 v25)) >>= fun v28 => ((pure d1.b) >>= fun v26 => (pure d1.d) >>= fun v27 => MR.lift (mulM v26 v27)) >>= fun v29 => pure (v28 + v29)) >>= fun v30 => pure (-v30)) >>= fun v31 => (pure d5) >>= fun v32 => MR.lift (m_fraction v31 v32)) else (pure ((0, 1) : Int × Int))) >>= fun d12 =>
  (((pure ((0, 1) : Int × Int)) >>= fun v35 => (pure d12) >>= fun v36 => MR.lift (m_is_less v35 v36)) >>= fun v37 => if v37 = true then (pure d12) else (pure ((0, 1) : Int × Int))) >>= fun d34 =>
  ((pure d34) >>= fun v41 => ((pure x0) >>= fun v38 => (pure x1) >>= fun v39 => (pure d34) >>= fun v40 => MR.lift (m_square_at v38 v39 v40)) >>= fun v42 => pure (v41, v42))
theorem fn_closest {P : Program} {w : World} {K : PySem.W.Frag} {mg : Str → Option Value} {base : Heap} {a_NOTHING : Addr} {f_ : Addr} {fd : FuncData} (F : Fun K "closest" "closest" s_closest f_ fd)  (c_NOTHING : KC K a_NOTHING ((0, 1) : Int × Int)) (m_NOTHING : mg "NOTHING" = some (.ref a_NOTHING)) (D_fraction : ∀ A : Around, Room 5 A → Dfn P w K mg base A "fraction" 2 (M2 m_fraction)) (D_gap_of : ∀ A : Around, Room 5 A → Dfn P w K mg base A "gap_of" 2 (M2 m_gap_of)) (D_is_less : ∀ A : Around, Room 5 A → Dfn P w K mg base A "is_less" 2 (M2 m_is_less)) (D_square_at : ∀ A : Around, Room 5 A → Dfn P w K mg base A "square_at" 3 (M3 m_square_at)) : FnOk P w K mg base CX0 6 f_ fd ["one", "other"] (spD K 2 (M2 m_closest)) := by
  refine fn_D (k := 5) F sc_closest (γ := ((List Int) × (List Int))) [.v (fun g => enc g.1), .v (fun g => enc g.2), .u, .u, .u, .u, .u, .u] (fun g => m_closest g.1 g.2) _ rfl rfl ?_ ?_
  · rintro ds d ⟨x0, x1, rfl, r, h, rfl⟩
    exact ⟨rfl, (x0, x1), r, (.v rfl (.v rfl (.u (.u (.u (.u (.u (.u .nil)))))))), h, rfl⟩
  · intro cdv A outer s H E hr
    have hu := hr.units
    have D_fraction := D_fraction _ hr
    have D_gap_of := D_gap_of _ hr
    have D_is_less := D_is_less _ hr
    have D_square_at := D_square_at _ hr
    unfold m_closest
    exact (B_seq (S_asgT (E_cast un4 (E_callI2 D_gap_of rfl rfl Rr.stb (fun _ _ => rfl) (fun _ _ => rfl) (E_v 0 ok_closest (.inl rfl) rfl (.inl rfl)) (E_v 1 ok_closest (.inl rfl) rfl (.inl rfl))) un4_ok) (G_tup4 2 3 4 5 (fun t : (T4 Int Int Int Int) => enc t.a) (fun t : (T4 Int Int Int Int) => enc t.b) (fun t : (T4 Int Int Int Int) => enc t.c) (fun t : (T4 Int Int Int Int) => enc t.d) rfl sc_closest.nd rfl rfl rfl rfl (.inl rfl) (.inl rfl) (.inl rfl) (.inl rfl) (.inl rfl) (.inl rfl) (.inl rfl) (.inl rfl)) rfl rfl rfl)
  (B_seq (S_asg 6 (EV.f (E_add Rr.stb (E_mul Rr.stb (E_v 4 ok_closest (.inl rfl) rfl (.inl rfl)) (E_v 4 ok_closest (.inl rfl) rfl (.inl rfl))) (E_mul Rr.stb (E_v 5 ok_closest (.inl rfl) rfl (.inl rfl)) (E_v 5 ok_closest (.inl rfl) rfl (.inl rfl))))) sc_closest.nd rfl (.inl rfl) rfl rfl)
  (B_seq (S_asg 7 (EV.f (E_ifE Rr.stb (T_cmp (C_gt Rr.stb (E_v 6 ok_closest (.inl rfl) rfl (.inl rfl)) E_int)) (E_callI2 D_fraction rfl rfl Rr.stb (fun _ _ => rfl) (fun _ _ => rfl) (E_neg (E_add Rr.stb (E_mul Rr.stb (E_v 2 ok_closest (.inl rfl) rfl (.inl rfl)) (E_v 4 ok_closest (.inl rfl) rfl (.inl rfl))) (E_mul Rr.stb (E_v 3 ok_closest (.inl rfl) rfl (.inl rfl)) (E_v 5 ok_closest (.inl rfl) rfl (.inl rfl))))) (E_v 6 ok_closest (.inl rfl) rfl (.inl rfl))) (E_const c_NOTHING rfl m_NOTHING))) sc_closest.nd rfl (.inl rfl) rfl rfl)
  (B_seq (S_asg 7 (EV.f (E_ifE Rr.stb (T_val (E_callI2 D_is_less rfl rfl Rr.stb (fun _ _ => rfl) (fun _ _ => rfl) (E_const c_NOTHING rfl m_NOTHING) (E_v 7 ok_closest (.inl rfl) rfl (.inl rfl)))) (E_v 7 ok_closest (.inl rfl) rfl (.inl rfl)) (E_const c_NOTHING rfl m_NOTHING))) sc_closest.nd rfl (.inl rfl) rfl rfl)
  (B_ret (EV.f (E_tup2 Rr.stb (fun _ _ => rfl) (fun _ _ => rfl) (E_v 7 ok_closest (.inl rfl) rfl (.inl rfl)) (E_callI3 D_square_at rfl rfl Rr.stb (fun _ _ => rfl) (fun _ _ => rfl) (fun _ _ => rfl) (E_v 0 ok_closest (.inl rfl) rfl (.inl rfl)) (E_v 1 ok_closest (.inl rfl) rfl (.inl rfl)) (E_v 7 ok_closest (.inl rfl) rfl (.inl rfl)))))) NdR.mono) NdR.mono) NdR.mono) NdR.mono)

abbrev s_is_safe : Stmt := topS 12
abbrev N_is_safe : List Str := ["one", "other", "apart"]
theorem sc_is_safe : FnScope N_is_safe ["one", "other", "apart"] (defScope s_is_safe) := ⟨rfl, rfl, rfl, by decide +kernel, rfl, by decide +kernel, by decide +kernel⟩
theorem ok_is_safe : okNames N_is_safe = true := by decide +kernel
def m_is_safe (x0 : (List Int)) (x1 : (List Int)) (x2 : Int) : Option Bool :=
  (((((pure x0) >>= fun v1 => (pure x1) >>= fun v2 => MR.lift (m_closest v1 v2)) >>= fun v3 => pure v3.2) >>= fun v6 => ((pure x2) >>= fun v4 => (pure (1 : Int)) >>= fun v5 => pure (v4, v5)) >>= fun v7 => MR.lift (m_is_less v6 v7)) >>= fun v8 => pure (!v8))
theorem fn_is_safe {P : Program} {w : World} {K : PySem.W.Frag} {mg : Str → Option Value} {base : Heap} {f_ : Addr} {fd : FuncData} (F : Fun K "is_safe" "is_safe" s_is_safe f_ fd)   (D_closest : ∀ A : Around, Room 6 A → Dfn P w K mg base A "closest" 2 (M2 m_closest)) (D_is_less : ∀ A : Around, Room 6 A → Dfn P w K mg base A "is_less" 2 (M2 m_is_less)) : FnOk P w K mg base CX0 7 f_ fd ["one", "other", "apart"] (spD K 3 (M3 m_is_safe)) := by
  refine fn_D (k := 6) F sc_is_safe (γ := (((List Int) × (List Int)) × Int)) [.v (fun g => enc g.1.1), .v (fun g => enc g.1.2), .v (fun g => enc g.2)] (fun g => m_is_safe g.1.1 g.1.2 g.2) _ rfl rfl ?_ ?_
  · rintro ds d ⟨x0, x1, x2, rfl, r, h, rfl⟩
    exact ⟨rfl, ((x0, x1), x2), r, (.v rfl (.v rfl (.v rfl .nil))), h, rfl⟩
  · intro cdv A outer s H E hr
    have hu := hr.units
    have D_closest := D_closest _ hr
    have D_is_less := D_is_less _ hr
    unfold m_is_safe
    exact (B_ret (EV.f (E_not (E_callI2 D_is_less rfl rfl Rr.stb (fun _ _ => rfl) (fun _ _ => rfl) (E_fld (fun t : ((Int × Int) × (Int × Int)) => t.2) 1 (E_callI2 D_closest rfl rfl Rr.stb (fun _ _ => rfl) (fun _ _ => rfl) (E_v 0 ok_is_safe (.inl rfl) rfl (.inl rfl)) (E_v 1 ok_is_safe (.inl rfl) rfl (.inl rfl)))) (E_tup2 Rr.stb (fun _ _ => rfl) (fun _ _ => rfl) (E_v 2 ok_is_safe (.inl rfl) rfl (.inl rfl)) E_int)))))

abbrev s_turned_right : Stmt := topS 13
abbrev N_turned_right : List Str := ["course", "x", "y", "dx", "dy"]
theorem sc_turned_right : FnScope N_turned_right ["course"] (defScope s_turned_right) := ⟨rfl, rfl, rfl, by decide +kernel, rfl, by decide +kernel, by decide +kernel⟩
theorem ok_turned_right : okNames N_turned_right = true := by decide +kernel
def m_turned_right (x0 : (List Int)) : Option (List Int) :=
  ((pure x0) >>= fun v2 => MR.lift (un4 v2)) >>= fun d1 =>
  ((pure d1.a) >>= fun v10 => ((pure d1.b) >>= fun v8 => ((pure d1.d) >>= fun v6 => (((pure d1.c) >>= fun v3 => pure (-v3)) >>= fun v4 => (pure []) >>= fun v5 => pure (v4 :: v5)) >>= fun v7 => pure (v6 :: v7)) >>= fun v9 => pure (v8 :: v9)) >>= fun v11 => pure (v10 :: v11))
theorem fn_turned_right {P : Program} {w : World} {K : PySem.W.Frag} {mg : Str → Option Value} {base : Heap} {f_ : Addr} {fd : FuncData} (F : Fun K "turned_right" "turned_right" s_turned_right f_ fd)    : FnOk P w K mg base CX0 1 f_ fd ["course"] (spD K 1 (M1 m_turned_right)) := by
  refine fn_D (k := 0) F sc_turned_right (γ := (List Int)) [.v (fun g => enc g), .u, .u, .u, .u] (fun g => m_turned_right g) _ rfl rfl ?_ ?_
  · rintro ds d ⟨x0, rfl, r, h, rfl⟩
    exact ⟨rfl, x0, r, (.v rfl (.u (.u (.u (.u .nil))))), h, rfl⟩
  · intro cdv A outer s H E hr
    have hu := hr.units
    unfold m_turned_right
    exact (B_seq (S_asgT (E_cast un4 (E_v 0 ok_turned_right (.inl rfl) rfl (.inl rfl)) un4_ok) (G_tup4 1 2 3 4 (fun t : (T4 Int Int Int Int) => enc t.a) (fun t : (T4 Int Int Int Int) => enc t.b) (fun t : (T4 Int Int Int Int) => enc t.c) (fun t : (T4 Int Int Int Int) => enc t.d) rfl sc_turned_right.nd rfl rfl rfl rfl (.inl rfl) (.inl rfl) (.inl rfl) (.inl rfl) (.inl rfl) (.inl rfl) (.inl rfl) (.inl rfl)) rfl rfl rfl)
  (B_ret (EV.f (E_tupL (α := Int) (H_cons Rr.stb (fun _ _ => rfl) (E_v 1 ok_turned_right (.inl rfl) rfl (.inl rfl)) (H_cons Rr.stb (fun _ _ => rfl) (E_v 2 ok_turned_right (.inl rfl) rfl (.inl rfl)) (H_cons Rr.stb (fun _ _ => rfl) (E_v 4 ok_turned_right (.inl rfl) rfl (.inl rfl)) (H_cons Rr.stb (fun _ _ => rfl) (E_neg (E_v 3 ok_turned_right (.inl rfl) rfl (.inl rfl))) H_nil)))) (by decide)))) NdR.mono)

abbrev s_first_safe : Stmt := topS 14
abbrev N_first_safe : List Str := ["one", "other", "apart", "turns"]
theorem sc_first_safe : FnScope N_first_safe ["one", "other", "apart"] (defScope s_first_safe) := ⟨rfl, rfl, rfl, by decide +kernel, rfl, by decide +kernel, by decide +kernel⟩
theorem ok_first_safe : okNames N_first_safe = true := by decide +kernel
def m_first_safe (x0 : (List Int)) (x1 : (List Int)) (x2 : Int) : Option (Option Int) :=
  (((pure (4 : Int)) >>= fun v2 => MR.lift (rngM 0 v2)) >>= fun xs13 => foldF (fun d1 y3 =>
  (((pure d1) >>= fun v4 => (pure x1) >>= fun v5 => (pure x2) >>= fun v6 => MR.lift (m_is_safe v4 v5 v6)) >>= fun b7 => if b7 = true then ((pure y3) >>= fun v8 => pure (some v8)) >>= fun v11 => pure (.rt v11) else
  ((pure d1) >>= fun v10 => MR.lift (m_turned_right v10)) >>= fun d9 =>
  (pure (.nx d9)))) x0 xs13 >>= flE (fun d12 => (pure none)))
theorem fn_first_safe {P : Program} {w : World} {K : PySem.W.Frag} {mg : Str → Option Value} {base : Heap} {f_ : Addr} {fd : FuncData} (F : Fun K "first_safe" "first_safe" s_first_safe f_ fd) (b_range : mg "range" = none)  (D_is_safe : ∀ A : Around, Room 7 A → Dfn P w K mg base A "is_safe" 3 (M3 m_is_safe)) (D_turned_right : ∀ A : Around, Room 7 A → Dfn P w K mg base A "turned_right" 1 (M1 m_turned_right)) : FnOk P w K mg base CX0 8 f_ fd ["one", "other", "apart"] (spD K 3 (M3 m_first_safe)) := by
  refine fn_D (k := 7) F sc_first_safe (γ := (((List Int) × (List Int)) × Int)) [.v (fun g => enc g.1.1), .v (fun g => enc g.1.2), .v (fun g => enc g.2), .u] (fun g => m_first_safe g.1.1 g.1.2 g.2) _ rfl rfl ?_ ?_
  · rintro ds d ⟨x0, x1, x2, rfl, r, h, rfl⟩
    exact ⟨rfl, ((x0, x1), x2), r, (.v rfl (.v rfl (.v rfl (.u .nil)))), h, rfl⟩
  · intro cdv A outer s H E hr
    have hu := hr.units
    have D_is_safe := D_is_safe _ hr
    have D_turned_right := D_turned_right _ hr
    unfold m_first_safe
    exact (S_forF' (δ := (List Int)) (fun g : (((List Int) × (List Int)) × Int) => g.1.1) (ssL := [.v (fun g => enc g.2), .v (fun g => enc g.1.1.2), .v (fun g => enc g.1.2), .u]) (.v (fun _ => rfl) (.v (fun _ => rfl) (.v (fun _ => rfl) (.u .nil))))
  (I_rng1 b_range rfl (fun _ _ => rfl) E_int) (G_name 3 sc_first_safe.nd rfl (.inl rfl) (.inl rfl))
  (B_if1F (T_val (E_callI3 D_is_safe rfl rfl Rr.stb (fun _ _ => rfl) (fun _ _ => rfl) (fun _ _ => rfl) (E_v 0 ok_first_safe (.inl rfl) rfl (.inl rfl)) (E_v 1 ok_first_safe (.inl rfl) rfl (.inl rfl)) (E_v 2 ok_first_safe (.inl rfl) rfl (.inl rfl)))) (B_ret (EV.f (E_as some (E_v 3 ok_first_safe (.inl rfl) rfl (.inl rfl)))))
  (B_seq (S_asg 0 (EV.f (E_callI1 D_turned_right rfl rfl Rr.stb (fun _ _ => rfl) (E_v 0 ok_first_safe (.inl rfl) rfl (.inl rfl)))) sc_first_safe.nd rfl (.inl rfl) rfl rfl)
  (B_endF (.v (fun _ => rfl) (.v (fun _ => rfl) (.v (fun _ => rfl) (.u .nil))))) NdF.mono))
  (B_ret (EV.f E_none)) rfl PassesOwn.never (fun _ => rfl))

abbrev s_meet_spot : Stmt := topS 15
abbrev N_meet_spot : List Str := ["one", "other", "t", "square"]
theorem sc_meet_spot : FnScope N_meet_spot ["one", "other"] (defScope s_meet_spot) := ⟨rfl, rfl, rfl, by decide +kernel, rfl, by decide +kernel, by decide +kernel⟩
theorem ok_meet_spot : okNames N_meet_spot = true := by decide +kernel
def m_meet_spot (x0 : (List Int)) (x1 : (List Int)) : Option (Option ((Int × Int) × ((Int × Int) × (Int × Int)))) :=
  ((pure x0) >>= fun v2 => (pure x1) >>= fun v3 => MR.lift (m_closest v2 v3)) >>= fun d1 =>
  (((pure d1.2) >>= fun v4 => (pure ((0, 1) : Int × Int)) >>= fun v5 => MR.lift (eqM v4 v5)) >>= fun v11 => if v11 = true then (((pure d1.1) >>= fun v8 => ((pure x0) >>= fun v6 => (pure d1.1) >>= fun v7 => MR.lift (m_at_hour v6 v7)) >>= fun v9 => pure (v8, v9)) >>= fun v10 => pure (some v10)) else (pure none))
theorem fn_meet_spot {P : Program} {w : World} {K : PySem.W.Frag} {mg : Str → Option Value} {base : Heap} {a_NOTHING : Addr} {f_ : Addr} {fd : FuncData} (F : Fun K "meet_spot" "meet_spot" s_meet_spot f_ fd)  (c_NOTHING : KC K a_NOTHING ((0, 1) : Int × Int)) (m_NOTHING : mg "NOTHING" = some (.ref a_NOTHING)) (D_at_hour : ∀ A : Around, Room 6 A → Dfn P w K mg base A "at_hour" 2 (M2 m_at_hour)) (D_closest : ∀ A : Around, Room 6 A → Dfn P w K mg base A "closest" 2 (M2 m_closest)) : FnOk P w K mg base CX0 7 f_ fd ["one", "other"] (spD K 2 (M2 m_meet_spot)) := by
  refine fn_D (k := 6) F sc_meet_spot (γ := ((List Int) × (List Int))) [.v (fun g => enc g.1), .v (fun g => enc g.2), .u, .u] (fun g => m_meet_spot g.1 g.2) _ rfl rfl ?_ ?_
  · rintro ds d ⟨x0, x1, rfl, r, h, rfl⟩
    exact ⟨rfl, (x0, x1), r, (.v rfl (.v rfl (.u (.u .nil)))), h, rfl⟩
  · intro cdv A outer s H E hr
    have hu := hr.units
    have D_at_hour := D_at_hour _ hr
    have D_closest := D_closest _ hr
    unfold m_meet_spot
    exact (B_seq (S_asgT (E_callI2 D_closest rfl rfl Rr.stb (fun _ _ => rfl) (fun _ _ => rfl) (E_v 0 ok_meet_spot (.inl rfl) rfl (.inl rfl)) (E_v 1 ok_meet_spot (.inl rfl) rfl (.inl rfl))) (G_tup2 2 3 (fun t : ((Int × Int) × (Int × Int)) => enc t.1) (fun t : ((Int × Int) × (Int × Int)) => enc t.2) rfl sc_meet_spot.nd rfl rfl (.inl rfl) (.inl rfl) (.inl rfl) (.inl rfl)) rfl rfl rfl)
  (B_ret (EV.f (E_ifE Rr.stb (T_cmp (C_eq hu Rr.stb (E_v 3 ok_meet_spot (.inl rfl) rfl (.inl rfl)) (E_const c_NOTHING rfl m_NOTHING))) (E_as some (E_tup2 Rr.stb (fun _ _ => rfl) (fun _ _ => rfl) (E_v 2 ok_meet_spot (.inl rfl) rfl (.inl rfl)) (E_callI2 D_at_hour rfl rfl Rr.stb (fun _ _ => rfl) (fun _ _ => rfl) (E_v 0 ok_meet_spot (.inl rfl) rfl (.inl rfl)) (E_v 2 ok_meet_spot (.inl rfl) rfl (.inl rfl))))) E_none))) NdR.mono)

abbrev s__law_draws : Stmt := topS 17
abbrev N__law_draws : List Str := ["script", "many", "draws", "mixed", "k", "cell", "rest", "turn"]
theorem sc__law_draws : FnScope N__law_draws ["script", "many"] (defScope s__law_draws) := ⟨rfl, rfl, rfl, by decide +kernel, rfl, by decide +kernel, by decide +kernel⟩
theorem ok__law_draws : okNames N__law_draws = true := by decide +kernel
def m_draws (ns : List Int) (x0 : Int) : Option (Ls Int) :=
  ((pure []) >>= fun v2 => pure (Ls.mk v2)) >>= fun d1 =>
  (pure (7 : Int)) >>= fun d3 =>
  (((pure (ns.length : Int)) >>= fun v5 => MR.lift (rngM 0 v5)) >>= fun xs59 => foldM' (fun d4 y6 =>
  (((pure y6) >>= fun v8 => MR.lift (atI ns v8)) >>= fun v9 => pure (absI v9)) >>= fun d7 =>
  (((((pure d4.1) >>= fun v11 => (pure (48271 : Int)) >>= fun v12 => MR.lift (mulM v11 v12)) >>= fun v15 => ((pure d7) >>= fun v13 => (pure (1000003 : Int)) >>= fun v14 => MR.lift (modM v13 v14)) >>= fun v16 => pure (v15 + v16)) >>= fun v17 => (pure y6) >>= fun v18 => pure (v17 + v18)) >>= fun v19 => (pure (65537 : Int)) >>= fun v20 => MR.lift (modM v19 v20)) >>= fun d10 =>
  (pure (0 : Int)) >>= fun d21 =>
  (((pure d7) >>= fun v24 => ((pure (10 : Int)) >>= fun v22 => (pure (18 : Int)) >>= fun v23 => MR.lift (powM v22 v23)) >>= fun v25 => pure (decide (v25 ≤ v24))) >>= fun b26 => if b26 = true then (pure d7) >>= fun d27 =>
  (pure (d27, d4.2)) else (((pure d7) >>= fun v30 => (pure (997 : Int)) >>= fun v31 => MR.lift (modM v30 v31)) >>= fun v29 => MR.lift (appM d4.2 v29)) >>= fun d28 =>
  ((((((pure d10) >>= fun v34 => (pure (69621 : Int)) >>= fun v35 => MR.lift (mulM v34 v35)) >>= fun v36 => (pure (5 : Int)) >>= fun v37 => pure (v36 + v37)) >>= fun v38 => (pure (65521 : Int)) >>= fun v39 => MR.lift (modM v38 v39)) >>= fun v40 => (pure (997 : Int)) >>= fun v41 => MR.lift (modM v40 v41)) >>= fun v33 => MR.lift (appM d28 v33)) >>= fun d32 =>
  (pure (d21, d32))) >>= fun d42 =>
  (((pure (60 : Int)) >>= fun v44 => MR.lift (rngM 0 v44)) >>= fun xs57 => foldM' (fun d43 y45 =>
  (((pure d43.2) >>= fun v46 => (pure (0 : Int)) >>= fun v47 => pure (decide (v47 < v46))) >>= fun b48 => if b48 = true then (((pure d43.2) >>= fun v51 => (pure (997 : Int)) >>= fun v52 => MR.lift (modM v51 v52)) >>= fun v50 => MR.lift (appM d43.1 v50)) >>= fun d49 =>
  ((pure d43.2) >>= fun v54 => (pure (997 : Int)) >>= fun v55 => MR.lift (divM v54 v55)) >>= fun d53 =>
  (pure (d49, d53)) else (pure (d43.1, d43.2))) >>= fun d56 =>
  (pure (d56.1, d56.2))) (d42.2, d42.1) xs57) >>= fun d58 =>
  (pure (d10, d58.1))) (d3, d1) xs59) >>= fun d60 =>
  (((pure x0) >>= fun v62 => MR.lift (rngM 0 v62)) >>= fun xs77 => foldM' (fun d61 y63 =>
  (((((pure d61.1) >>= fun v65 => (pure (16807 : Int)) >>= fun v66 => MR.lift (mulM v65 v66)) >>= fun v67 => (pure y63) >>= fun v68 => pure (v67 + v68)) >>= fun v69 => (pure (1 : Int)) >>= fun v70 => pure (v69 + v70)) >>= fun v71 => (pure (65537 : Int)) >>= fun v72 => MR.lift (modM v71 v72)) >>= fun d64 =>
  (((pure d64) >>= fun v75 => (pure (997 : Int)) >>= fun v76 => MR.lift (modM v75 v76)) >>= fun v74 => MR.lift (appM d61.2 v74)) >>= fun d73 =>
  (pure (d64, d73))) (d60.1, d60.2) xs77) >>= fun d78 =>
  ((pure d78.2) >>= fun v80 => (pure none) >>= fun v81 => ((pure x0) >>= fun v79 => pure (some v79)) >>= fun v82 => pure (Ls.mk (cutL v80.l v81 v82)))
theorem fn_draws {P : Program} {w : World} {K : PySem.W.Frag} {mg : Str → Option Value} {base : Heap} {f_ : Addr} {fd : FuncData} (F : Fun K "_law_draws" "_law_draws" s__law_draws f_ fd) (b_abs : mg "abs" = none) (b_int : mg "int" = none) (b_len : mg "len" = none) (b_range : mg "range" = none) : FnOk P w K mg base CX0 1 f_ fd ["script", "many"] (spDr K m_draws) := by
  refine fn_Dr (k := 0) F sc__law_draws 6 rfl rfl m_draws ?_
  intro a ns cdv A outer s H E hr hS
  have hu := hr.units
  have nA : ¬ W0.Av a := fun z => z
  unfold m_draws
  exact (B_seq (S_asgO 2 (E_lst (α := Int) H_nil (by decide)) sc__law_draws.nd rfl (.inl rfl) rfl rfl)
  (B_seq (S_asg 3 (EV.f E_int) sc__law_draws.nd rfl (.inl rfl) rfl rfl)
  (B_seq (S_for' (δ := (Int × (Ls Int))) (fun g : ((Int × (Ls Int)) × Int) => (g.2, g.1.2)) (ssL := [.k (.ref a), .v (fun g => enc g.1.1.1), .o (fun g => enc g.2.2), .v (fun g => enc g.2.1), .u, .u, .u, .u]) (.k (.v (fun _ => rfl) (.o (fun _ => rfl) (.v (fun _ => rfl) (.u (.u (.u (.u .nil))))))))
  (I_rng1 b_range rfl (fun _ _ => rfl) (E_scLen (i := 0) ok__law_draws hS nA rfl rfl (.inl rfl) b_len rfl)) (G_name 4 sc__law_draws.nd rfl (.inl rfl) (.inl rfl))
  (B_seq (S_asg 5 (EV.f (E_abs b_abs rfl rfl Rr.stb (fun _ _ => rfl) (E_intI b_int rfl Rr.stb (fun _ _ => rfl) (E_scIx (i := 0) ok__law_draws hS nA rfl rfl (.inl rfl) (E_v 4 ok__law_draws (.inl rfl) rfl (.inl rfl)))))) sc__law_draws.nd rfl (.inl rfl) rfl rfl)
  (B_seq (S_asg 3 (EV.f (E_mod Rr.stb (E_intI b_int rfl Rr.stb (fun _ _ => rfl) (E_add Rr.stb (E_add Rr.stb (E_mul Rr.stb (E_v 3 ok__law_draws (.inl rfl) rfl (.inl rfl)) E_int) (E_mod Rr.stb (E_v 5 ok__law_draws (.inl rfl) rfl (.inl rfl)) E_int)) (E_v 4 ok__law_draws (.inl rfl) rfl (.inl rfl)))) E_int)) sc__law_draws.nd rfl (.inl rfl) rfl rfl)
  (B_seq (S_asg 6 (EV.f E_int) sc__law_draws.nd rfl (.inl rfl) rfl rfl)
  (B_seq (S_if (δ := (Int × (Ls Int))) (ss' := [.k (.ref a), .v (fun g => enc g.1.1.1.1.1.1.1.1), .o (fun g => enc g.2.2), .v (fun g => enc g.1.1.2), .v (fun g => enc g.1.1.1.1.2), .v (fun g => enc g.1.1.1.2), .v (fun g => enc g.2.1), .u]) (T_cmp (C_ge Rr.stb (E_v 5 ok__law_draws (.inl rfl) rfl (.inl rfl)) (E_pow Rr.stb E_int E_int)))
  (B_seq (S_asg 6 (EV.f (E_v 5 ok__law_draws (.inl rfl) rfl (.inl rfl))) sc__law_draws.nd rfl (.inl rfl) rfl rfl)
  (B_end (.k (.v (fun _ => rfl) (.o (fun _ => rfl) (.v (fun _ => rfl) (.v (fun _ => rfl) (.v (fun _ => rfl) (.v (fun _ => rfl) (.u .nil))))))))) NdN.mono)
  (B_seq (S_app 2 ok__law_draws rfl (fun _ _ => rfl) (E_mod Rr.stb (E_intI b_int rfl Rr.stb (fun _ _ => rfl) (E_v 5 ok__law_draws (.inl rfl) rfl (.inl rfl))) E_int) rfl (.inl rfl) rfl rfl rfl)
  (B_seq (S_app 2 ok__law_draws rfl (fun _ _ => rfl) (E_mod Rr.stb (E_mod Rr.stb (E_intI b_int rfl Rr.stb (fun _ _ => rfl) (E_add Rr.stb (E_mul Rr.stb (E_v 3 ok__law_draws (.inl rfl) rfl (.inl rfl)) E_int) E_int)) E_int) E_int) rfl (.inl rfl) rfl rfl rfl)
  (B_end (.k (.v (fun _ => rfl) (.o (fun _ => rfl) (.v (fun _ => rfl) (.v (fun _ => rfl) (.v (fun _ => rfl) (.v (fun _ => rfl) (.u .nil))))))))) NdN.mono) NdN.mono))
  (B_seq (S_for' (δ := ((Ls Int) × Int)) (fun g : ((((((((Int × (Ls Int)) × Int) × (Int × (Ls Int))) × Int) × Int) × Int) × Int) × (Int × (Ls Int))) => (g.2.2, g.2.1)) (ssL := [.k (.ref a), .v (fun g => enc g.1.1.1.1.1.1.1.1.1), .o (fun g => enc g.2.1), .v (fun g => enc g.1.1.1.2), .v (fun g => enc g.1.1.1.1.1.2), .v (fun g => enc g.1.1.1.1.2), .v (fun g => enc g.2.2), .u]) (.k (.v (fun _ => rfl) (.o (fun _ => rfl) (.v (fun _ => rfl) (.v (fun _ => rfl) (.v (fun _ => rfl) (.v (fun _ => rfl) (.u .nil))))))))
  (I_rng1 b_range rfl (fun _ _ => rfl) E_int) (G_name 7 sc__law_draws.nd rfl (.inl rfl) (.inl rfl))
  (B_seq (S_if (δ := ((Ls Int) × Int)) (ss' := [.k (.ref a), .v (fun g => enc g.1.1.1.1.1.1.1.1.1.1.1), .o (fun g => enc g.2.1), .v (fun g => enc g.1.1.1.1.1.2), .v (fun g => enc g.1.1.1.1.1.1.1.2), .v (fun g => enc g.1.1.1.1.1.1.2), .v (fun g => enc g.2.2), .v (fun g => enc g.1.2)]) (T_cmp (C_gt Rr.stb (E_v 6 ok__law_draws (.inl rfl) rfl (.inl rfl)) E_int))
  (B_seq (S_app 2 ok__law_draws rfl (fun _ _ => rfl) (E_mod Rr.stb (E_intI b_int rfl Rr.stb (fun _ _ => rfl) (E_v 6 ok__law_draws (.inl rfl) rfl (.inl rfl))) E_int) rfl (.inl rfl) rfl rfl rfl)
  (B_seq (S_asg 6 (EV.f (E_div Rr.stb (E_v 6 ok__law_draws (.inl rfl) rfl (.inl rfl)) E_int)) sc__law_draws.nd rfl (.inl rfl) rfl rfl)
  (B_end (.k (.v (fun _ => rfl) (.o (fun _ => rfl) (.v (fun _ => rfl) (.v (fun _ => rfl) (.v (fun _ => rfl) (.v (fun _ => rfl) (.v (fun _ => rfl) .nil))))))))) NdN.mono) NdN.mono)
  (B_end (.k (.v (fun _ => rfl) (.o (fun _ => rfl) (.v (fun _ => rfl) (.v (fun _ => rfl) (.v (fun _ => rfl) (.v (fun _ => rfl) (.v (fun _ => rfl) .nil))))))))))
  (B_end (.k (.v (fun _ => rfl) (.o (fun _ => rfl) (.v (fun _ => rfl) (.v (fun _ => rfl) (.v (fun _ => rfl) (.v (fun _ => rfl) (.u .nil))))))))) NdN.mono) rfl PassesOwn.never (fun _ => rfl))
  (B_end (.k (.v (fun _ => rfl) (.o (fun _ => rfl) (.v (fun _ => rfl) (.u (.u (.u (.u .nil))))))))) NdN.mono) NdN.mono) NdN.mono) NdN.mono) NdN.mono) rfl PassesOwn.never (fun _ => rfl))
  (B_seq (S_for' (δ := (Int × (Ls Int))) (fun g : (((Int × (Ls Int)) × Int) × (Int × (Ls Int))) => (g.2.1, g.2.2)) (ssL := [.k (.ref a), .v (fun g => enc g.1.1.1.1), .o (fun g => enc g.2.2), .v (fun g => enc g.2.1), .u, .u, .u, .u]) (.k (.v (fun _ => rfl) (.o (fun _ => rfl) (.v (fun _ => rfl) (.u (.u (.u (.u .nil))))))))
  (I_rng1 b_range rfl (fun _ _ => rfl) (E_v 1 ok__law_draws (.inl rfl) rfl (.inl rfl))) (G_name 4 sc__law_draws.nd rfl (.inl rfl) (.inl rfl))
  (B_seq (S_asg 3 (EV.f (E_mod Rr.stb (E_intI b_int rfl Rr.stb (fun _ _ => rfl) (E_add Rr.stb (E_add Rr.stb (E_mul Rr.stb (E_v 3 ok__law_draws (.inl rfl) rfl (.inl rfl)) E_int) (E_v 4 ok__law_draws (.inl rfl) rfl (.inl rfl))) E_int)) E_int)) sc__law_draws.nd rfl (.inl rfl) rfl rfl)
  (B_seq (S_app 2 ok__law_draws rfl (fun _ _ => rfl) (E_mod Rr.stb (E_intI b_int rfl Rr.stb (fun _ _ => rfl) (E_v 3 ok__law_draws (.inl rfl) rfl (.inl rfl))) E_int) rfl (.inl rfl) rfl rfl rfl)
  (B_end (.k (.v (fun _ => rfl) (.o (fun _ => rfl) (.v (fun _ => rfl) (.u (.u (.u (.u .nil))))))))) NdN.mono) NdN.mono) rfl PassesOwn.never (fun _ => rfl))
  (B_ret (E_slL Rr.stb (E_v 2 ok__law_draws (.inr rfl) rfl (.inl rfl)) P_none (P_some (E_v 1 ok__law_draws (.inl rfl) rfl (.inl rfl))))) NdR.mono) NdR.mono) NdR.mono) NdR.mono)

abbrev s__law_least : Stmt := topS 19
abbrev N__law_least : List Str := ["a", "b", "one", "other"]
theorem sc__law_least : FnScope N__law_least ["a", "b"] (defScope s__law_least) := ⟨rfl, rfl, rfl, by decide +kernel, rfl, by decide +kernel, by decide +kernel⟩
theorem ok__law_least : okNames N__law_least = true := by decide +kernel
def m__law_least (x0 : Int) (x1 : Int) : Option (Int × Int) :=
  (((pure x0) >>= fun v2 => pure (absI v2)) >>= fun v4 => ((pure x1) >>= fun v3 => pure (absI v3)) >>= fun v5 => pure (v4, v5)) >>= fun d1 =>
  (whileM (fun d6 => ((pure d6.2) >>= fun v7 => (pure (0 : Int)) >>= fun v8 => pure (decide (v8 < v7)))) (fun d6 =>
  ((pure d6.2) >>= fun v12 => ((pure d6.1) >>= fun v10 => (pure d6.2) >>= fun v11 => MR.lift (modM v10 v11)) >>= fun v13 => pure (v12, v13)) >>= fun d9 =>
  (pure (d9.1, d9.2))) fuel (d1.1, d1.2)) >>= fun d14 =>
  (((pure x1) >>= fun v16 => (pure (0 : Int)) >>= fun v17 => pure (decide (v17 < v16))) >>= fun v20 => if v20 = true then (pure d14.1) else ((pure (0 : Int)) >>= fun v18 => (pure d14.1) >>= fun v19 => pure (v18 - v19))) >>= fun d15 =>
  (((pure x0) >>= fun v21 => (pure d15) >>= fun v22 => MR.lift (divM v21 v22)) >>= fun v25 => ((pure x1) >>= fun v23 => (pure d15) >>= fun v24 => MR.lift (divM v23 v24)) >>= fun v26 => pure (v25, v26))
theorem fn__law_least {P : Program} {w : World} {K : PySem.W.Frag} {mg : Str → Option Value} {base : Heap} {f_ : Addr} {fd : FuncData} (F : Fun K "_law_least" "_law_least" s__law_least f_ fd) (b_abs : mg "abs" = none)   : FnOk P w K mg base CX0 1 f_ fd ["a", "b"] (spD K 2 (M2 m__law_least)) := by
  refine fn_D (k := 0) F sc__law_least (γ := (Int × Int)) [.v (fun g => enc g.1), .v (fun g => enc g.2), .u, .u] (fun g => m__law_least g.1 g.2) _ rfl rfl ?_ ?_
  · rintro ds d ⟨x0, x1, rfl, r, h, rfl⟩
    exact ⟨rfl, (x0, x1), r, (.v rfl (.v rfl (.u (.u .nil)))), h, rfl⟩
  · intro cdv A outer s H E hr
    have hu := hr.units
    unfold m__law_least
    exact (B_seq (S_par2 2 3 (fun _ _ => rfl) (fun _ _ => rfl) (E_abs b_abs rfl rfl Rr.stb (fun _ _ => rfl) (E_v 0 ok__law_least (.inl rfl) rfl (.inl rfl))) (E_abs b_abs rfl rfl Rr.stb (fun _ _ => rfl) (E_v 1 ok__law_least (.inl rfl) rfl (.inl rfl))) rfl sc__law_least.nd rfl rfl (by decide) rfl rfl rfl rfl)
  (B_seq (S_while' (δ := (Int × Int)) (fun g : ((Int × Int) × (Int × Int)) => (g.2.1, g.2.2)) fuel (ssL := [.v (fun g => enc g.1.1.1), .v (fun g => enc g.1.1.2), .v (fun g => enc g.2.1), .v (fun g => enc g.2.2)]) (.v (fun _ => rfl) (.v (fun _ => rfl) (.v (fun _ => rfl) (.v (fun _ => rfl) .nil))))
  (T_cmp (C_gt Rr.stb (E_v 3 ok__law_least (.inl rfl) rfl (.inl rfl)) E_int))
  (B_seq (S_par2 2 3 (fun _ _ => rfl) (fun _ _ => rfl) (E_v 3 ok__law_least (.inl rfl) rfl (.inl rfl)) (E_mod Rr.stb (E_v 2 ok__law_least (.inl rfl) rfl (.inl rfl)) (E_v 3 ok__law_least (.inl rfl) rfl (.inl rfl))) rfl sc__law_least.nd rfl rfl (by decide) rfl rfl rfl rfl)
  (B_end (.v (fun _ => rfl) (.v (fun _ => rfl) (.v (fun _ => rfl) (.v (fun _ => rfl) .nil))))) NdN.mono) PassesOwn.never)
  (B_seq (S_asg 2 (EV.f (E_ifE Rr.stb (T_cmp (C_gt Rr.stb (E_v 1 ok__law_least (.inl rfl) rfl (.inl rfl)) E_int)) (E_v 2 ok__law_least (.inl rfl) rfl (.inl rfl)) (E_sub Rr.stb E_int (E_v 2 ok__law_least (.inl rfl) rfl (.inl rfl))))) sc__law_least.nd rfl (.inl rfl) rfl rfl)
  (B_ret (EV.f (E_tup2 Rr.stb (fun _ _ => rfl) (fun _ _ => rfl) (E_div Rr.stb (E_v 0 ok__law_least (.inl rfl) rfl (.inl rfl)) (E_v 2 ok__law_least (.inl rfl) rfl (.inl rfl))) (E_div Rr.stb (E_v 1 ok__law_least (.inl rfl) rfl (.inl rfl)) (E_v 2 ok__law_least (.inl rfl) rfl (.inl rfl)))))) NdR.mono) NdR.mono) NdR.mono)

abbrev s__law_plus : Stmt := topS 20
abbrev N__law_plus : List Str := ["a", "b"]
theorem sc__law_plus : FnScope N__law_plus ["a", "b"] (defScope s__law_plus) := ⟨rfl, rfl, rfl, by decide +kernel, rfl, by decide +kernel, by decide +kernel⟩
theorem ok__law_plus : okNames N__law_plus = true := by decide +kernel
def m__law_plus (x0 : (Int × Int)) (x1 : (Int × Int)) : Option (Int × Int) :=
  (((((pure x0) >>= fun v1 => pure v1.1) >>= fun v3 => ((pure x1) >>= fun v2 => pure v2.2) >>= fun v4 => MR.lift (mulM v3 v4)) >>= fun v9 => (((pure x1) >>= fun v5 => pure v5.1) >>= fun v7 => ((pure x0) >>= fun v6 => pure v6.2) >>= fun v8 => MR.lift (mulM v7 v8)) >>= fun v10 => pure (v9 + v10)) >>= fun v15 => (((pure x0) >>= fun v11 => pure v11.2) >>= fun v13 => ((pure x1) >>= fun v12 => pure v12.2) >>= fun v14 => MR.lift (mulM v13 v14)) >>= fun v16 => MR.lift (m__law_least v15 v16))
theorem fn__law_plus {P : Program} {w : World} {K : PySem.W.Frag} {mg : Str → Option Value} {base : Heap} {f_ : Addr} {fd : FuncData} (F : Fun K "_law_plus" "_law_plus" s__law_plus f_ fd)   (D__law_least : ∀ A : Around, Room 1 A → Dfn P w K mg base A "_law_least" 2 (M2 m__law_least)) : FnOk P w K mg base CX0 2 f_ fd ["a", "b"] (spD K 2 (M2 m__law_plus)) := by
  refine fn_D (k := 1) F sc__law_plus (γ := ((Int × Int) × (Int × Int))) [.v (fun g => enc g.1), .v (fun g => enc g.2)] (fun g => m__law_plus g.1 g.2) _ rfl rfl ?_ ?_
  · rintro ds d ⟨x0, x1, rfl, r, h, rfl⟩
    exact ⟨rfl, (x0, x1), r, (.v rfl (.v rfl .nil)), h, rfl⟩
  · intro cdv A outer s H E hr
    have hu := hr.units
    have D__law_least := D__law_least _ hr
    unfold m__law_plus
    exact (B_ret (EV.f (E_callI2 D__law_least rfl rfl Rr.stb (fun _ _ => rfl) (fun _ _ => rfl) (E_add Rr.stb (E_mul Rr.stb (E_fld (fun t : (Int × Int) => t.1) 0 (E_v 0 ok__law_plus (.inl rfl) rfl (.inl rfl))) (E_fld (fun t : (Int × Int) => t.2) 1 (E_v 1 ok__law_plus (.inl rfl) rfl (.inl rfl)))) (E_mul Rr.stb (E_fld (fun t : (Int × Int) => t.1) 0 (E_v 1 ok__law_plus (.inl rfl) rfl (.inl rfl))) (E_fld (fun t : (Int × Int) => t.2) 1 (E_v 0 ok__law_plus (.inl rfl) rfl (.inl rfl))))) (E_mul Rr.stb (E_fld (fun t : (Int × Int) => t.2) 1 (E_v 0 ok__law_plus (.inl rfl) rfl (.inl rfl))) (E_fld (fun t : (Int × Int) => t.2) 1 (E_v 1 ok__law_plus (.inl rfl) rfl (.inl rfl)))))))

abbrev s__law_times : Stmt := topS 21
abbrev N__law_times : List Str := ["a", "b"]
theorem sc__law_times : FnScope N__law_times ["a", "b"] (defScope s__law_times) := ⟨rfl, rfl, rfl, by decide +kernel, rfl, by decide +kernel, by decide +kernel⟩
theorem ok__law_times : okNames N__law_times = true := by decide +kernel
def m__law_times (x0 : (Int × Int)) (x1 : (Int × Int)) : Option (Int × Int) :=
  ((((pure x0) >>= fun v1 => pure v1.1) >>= fun v3 => ((pure x1) >>= fun v2 => pure v2.1) >>= fun v4 => MR.lift (mulM v3 v4)) >>= fun v9 => (((pure x0) >>= fun v5 => pure v5.2) >>= fun v7 => ((pure x1) >>= fun v6 => pure v6.2) >>= fun v8 => MR.lift (mulM v7 v8)) >>= fun v10 => MR.lift (m__law_least v9 v10))
theorem fn__law_times {P : Program} {w : World} {K : PySem.W.Frag} {mg : Str → Option Value} {base : Heap} {f_ : Addr} {fd : FuncData} (F : Fun K "_law_times" "_law_times" s__law_times f_ fd)   (D__law_least : ∀ A : Around, Room 1 A → Dfn P w K mg base A "_law_least" 2 (M2 m__law_least)) : FnOk P w K mg base CX0 2 f_ fd ["a", "b"] (spD K 2 (M2 m__law_times)) := by
  refine fn_D (k := 1) F sc__law_times (γ := ((Int × Int) × (Int × Int))) [.v (fun g => enc g.1), .v (fun g => enc g.2)] (fun g => m__law_times g.1 g.2) _ rfl rfl ?_ ?_
  · rintro ds d ⟨x0, x1, rfl, r, h, rfl⟩
    exact ⟨rfl, (x0, x1), r, (.v rfl (.v rfl .nil)), h, rfl⟩
  · intro cdv A outer s H E hr
    have hu := hr.units
    have D__law_least := D__law_least _ hr
    unfold m__law_times
    exact (B_ret (EV.f (E_callI2 D__law_least rfl rfl Rr.stb (fun _ _ => rfl) (fun _ _ => rfl) (E_mul Rr.stb (E_fld (fun t : (Int × Int) => t.1) 0 (E_v 0 ok__law_times (.inl rfl) rfl (.inl rfl))) (E_fld (fun t : (Int × Int) => t.1) 0 (E_v 1 ok__law_times (.inl rfl) rfl (.inl rfl)))) (E_mul Rr.stb (E_fld (fun t : (Int × Int) => t.2) 1 (E_v 0 ok__law_times (.inl rfl) rfl (.inl rfl))) (E_fld (fun t : (Int × Int) => t.2) 1 (E_v 1 ok__law_times (.inl rfl) rfl (.inl rfl)))))))

abbrev s__law_holds : Stmt := topS 22
abbrev N__law_holds : List Str := ["w", "one", "other", "x", "y", "dx", "dy", "speed", "gap", "time", "square", "apart", "now", "k", "hour", "spot"]
theorem sc__law_holds : FnScope N__law_holds ["w"] (defScope s__law_holds) := ⟨rfl, rfl, rfl, by decide +kernel, rfl, by decide +kernel, by decide +kernel⟩
theorem ok__law_holds : okNames N__law_holds = true := by decide +kernel
def m_holds (ds : List Int) : SM Int Bool :=
  (((pure (20 : Int)) >>= fun v2 => nxt ds v2) >>= fun v16 => (((pure (20 : Int)) >>= fun v3 => nxt ds v3) >>= fun v14 => ((((pure (7 : Int)) >>= fun v4 => nxt ds v4) >>= fun v5 => (pure (3 : Int)) >>= fun v6 => pure (v5 - v6)) >>= fun v12 => ((((pure (7 : Int)) >>= fun v7 => nxt ds v7) >>= fun v8 => (pure (3 : Int)) >>= fun v9 => pure (v8 - v9)) >>= fun v10 => (pure []) >>= fun v11 => pure (v10 :: v11)) >>= fun v13 => pure (v12 :: v13)) >>= fun v15 => pure (v14 :: v15)) >>= fun v17 => pure (v16 :: v17)) >>= fun d1 =>
  (((pure (20 : Int)) >>= fun v19 => nxt ds v19) >>= fun v33 => (((pure (20 : Int)) >>= fun v20 => nxt ds v20) >>= fun v31 => ((((pure (7 : Int)) >>= fun v21 => nxt ds v21) >>= fun v22 => (pure (3 : Int)) >>= fun v23 => pure (v22 - v23)) >>= fun v29 => ((((pure (7 : Int)) >>= fun v24 => nxt ds v24) >>= fun v25 => (pure (3 : Int)) >>= fun v26 => pure (v25 - v26)) >>= fun v27 => (pure []) >>= fun v28 => pure (v27 :: v28)) >>= fun v30 => pure (v29 :: v30)) >>= fun v32 => pure (v31 :: v32)) >>= fun v34 => pure (v33 :: v34)) >>= fun d18 =>
  ((((pure d18) >>= fun v36 => (pure (0 : Int)) >>= fun v37 => MR.lift (atI v36 v37)) >>= fun v40 => ((pure d1) >>= fun v38 => (pure (0 : Int)) >>= fun v39 => MR.lift (atI v38 v39)) >>= fun v41 => pure (v40 - v41)) >>= fun v60 => (((pure d18) >>= fun v42 => (pure (1 : Int)) >>= fun v43 => MR.lift (atI v42 v43)) >>= fun v46 => ((pure d1) >>= fun v44 => (pure (1 : Int)) >>= fun v45 => MR.lift (atI v44 v45)) >>= fun v47 => pure (v46 - v47)) >>= fun v61 => (((pure d18) >>= fun v48 => (pure (2 : Int)) >>= fun v49 => MR.lift (atI v48 v49)) >>= fun v52 => ((pure d1) >>= fun v50 => (pure (2 : Int)) >>= fun v51 => MR.lift (atI v50 v51)) >>= fun v53 => pure (v52 - v53)) >>= fun v62 => (((pure d18) >>= fun v54 => (pure (3 : Int)) >>= fun v55 => MR.lift (atI v54 v55)) >>= fun v58 => ((pure d1) >>= fun v56 => (pure (3 : Int)) >>= fun v57 => MR.lift (atI v56 v57)) >>= fun v59 => pure (v58 - v59)) >>= fun v63 => pure (T4.mk v60 v61 v62 v63)) >>= fun d35 =>
  ((((pure d35.c) >>= fun v65 => (pure d35.c) >>= fun v66 => MR.lift (mulM v65 v66)) >>= fun v69 => ((pure d35.d) >>= fun v67 => (pure d35.d) >>= fun v68 => MR.lift (mulM v67 v68)) >>= fun v70 => pure (v69 + v70)) >>= fun v77 => (((pure d35.a) >>= fun v71 => (pure d35.c) >>= fun v72 => MR.lift (mulM v71 v72)) >>= fun v75 => ((pure d35.b) >>= fun v73 => (pure d35.d) >>= fun v74 => MR.lift (mulM v73 v74)) >>= fun v76 => pure (v75 + v76)) >>= fun v78 => pure (v77, v78)) >>= fun d64 =>
  ((((pure d64.1) >>= fun v79 => (pure (0 : Int)) >>= fun v80 => MR.lift (eqM v79 v80)) >>= fun v83 => if v83 = true then pure true else ((pure d64.2) >>= fun v81 => (pure (0 : Int)) >>= fun v82 => pure (decide (v82 ≤ v81)))) >>= fun b84 => if b84 = true then (((pure (0 : Int)) >>= fun v86 => (pure (1 : Int)) >>= fun v87 => pure (v86, v87)) >>= fun v96 => ((((pure d35.a) >>= fun v88 => (pure d35.a) >>= fun v89 => MR.lift (mulM v88 v89)) >>= fun v92 => ((pure d35.b) >>= fun v90 => (pure d35.b) >>= fun v91 => MR.lift (mulM v90 v91)) >>= fun v93 => pure (v92 + v93)) >>= fun v94 => (pure (1 : Int)) >>= fun v95 => pure (v94, v95)) >>= fun v97 => pure (v96, v97)) >>= fun d85 =>
  (pure (d85.1, d85.2)) else ((((pure (0 : Int)) >>= fun v99 => (pure d64.2) >>= fun v100 => pure (v99 - v100)) >>= fun v101 => (pure d64.1) >>= fun v102 => MR.lift (m__law_least v101 v102)) >>= fun v119 => (((((pure d35.a) >>= fun v103 => (pure d35.d) >>= fun v104 => MR.lift (mulM v103 v104)) >>= fun v107 => ((pure d35.b) >>= fun v105 => (pure d35.c) >>= fun v106 => MR.lift (mulM v105 v106)) >>= fun v108 => pure (v107 - v108)) >>= fun v115 => (((pure d35.a) >>= fun v109 => (pure d35.d) >>= fun v110 => MR.lift (mulM v109 v110)) >>= fun v113 => ((pure d35.b) >>= fun v111 => (pure d35.c) >>= fun v112 => MR.lift (mulM v111 v112)) >>= fun v114 => pure (v113 - v114)) >>= fun v116 => MR.lift (mulM v115 v116)) >>= fun v117 => (pure d64.1) >>= fun v118 => MR.lift (m__law_least v117 v118)) >>= fun v120 => pure (v119, v120)) >>= fun d98 =>
  (pure (d98.1, d98.2))) >>= fun d121 =>
  (((((pure d1) >>= fun v122 => (pure d18) >>= fun v123 => MR.lift (m_closest v122 v123)) >>= fun v126 => ((pure d121.1) >>= fun v124 => (pure d121.2) >>= fun v125 => pure (v124, v125)) >>= fun v127 => MR.lift (neM v126 v127)) >>= fun v140 => if v140 = true then pure true else ((((pure d1) >>= fun v128 => (pure d18) >>= fun v129 => (pure d121.1) >>= fun v130 => MR.lift (m_square_at v128 v129 v130)) >>= fun v131 => (pure d121.2) >>= fun v132 => MR.lift (neM v131 v132)) >>= fun v139 => if v139 = true then pure true else (((pure d18) >>= fun v133 => (pure d1) >>= fun v134 => MR.lift (m_closest v133 v134)) >>= fun v137 => ((pure d121.1) >>= fun v135 => (pure d121.2) >>= fun v136 => pure (v135, v136)) >>= fun v138 => MR.lift (neM v137 v138)))) >>= fun b141 => if b141 = true then (pure false) else
  ((pure (200 : Int)) >>= fun v143 => nxt ds v143) >>= fun d142 =>
  ((((pure d1) >>= fun v144 => (pure d18) >>= fun v145 => (pure d142) >>= fun v146 => MR.lift (m_is_safe v144 v145 v146)) >>= fun v153 => (((pure d121.2) >>= fun v147 => pure v147.1) >>= fun v151 => ((pure d142) >>= fun v149 => ((pure d121.2) >>= fun v148 => pure v148.2) >>= fun v150 => MR.lift (mulM v149 v150)) >>= fun v152 => pure (decide (v152 ≤ v151))) >>= fun v154 => MR.lift (neM v153 v154)) >>= fun b155 => if b155 = true then (pure false) else
  (pure d1) >>= fun d156 =>
  (((pure (4 : Int)) >>= fun v158 => MR.lift (rngM 0 v158)) >>= fun xs162 => foldM' (fun d157 y159 =>
  ((pure d157) >>= fun v161 => MR.lift (m_turned_right v161)) >>= fun d160 =>
  (pure d160)) d156 xs162) >>= fun d163 =>
  (((pure (20 : Int)) >>= fun v165 => nxt ds v165) >>= fun v169 => ((pure (1 : Int)) >>= fun v167 => ((pure (5 : Int)) >>= fun v166 => nxt ds v166) >>= fun v168 => pure (v167 + v168)) >>= fun v170 => MR.lift (m__law_least v169 v170)) >>= fun d164 =>
  (((((pure d1) >>= fun v172 => (pure (0 : Int)) >>= fun v173 => MR.lift (atI v172 v173)) >>= fun v174 => (pure (1 : Int)) >>= fun v175 => pure (v174, v175)) >>= fun v182 => ((pure d164) >>= fun v180 => (((pure d1) >>= fun v176 => (pure (2 : Int)) >>= fun v177 => MR.lift (atI v176 v177)) >>= fun v178 => (pure (1 : Int)) >>= fun v179 => pure (v178, v179)) >>= fun v181 => MR.lift (m__law_times v180 v181)) >>= fun v183 => MR.lift (m__law_plus v182 v183)) >>= fun v196 => ((((pure d1) >>= fun v184 => (pure (1 : Int)) >>= fun v185 => MR.lift (atI v184 v185)) >>= fun v186 => (pure (1 : Int)) >>= fun v187 => pure (v186, v187)) >>= fun v194 => ((pure d164) >>= fun v192 => (((pure d1) >>= fun v188 => (pure (3 : Int)) >>= fun v189 => MR.lift (atI v188 v189)) >>= fun v190 => (pure (1 : Int)) >>= fun v191 => pure (v190, v191)) >>= fun v193 => MR.lift (m__law_times v192 v193)) >>= fun v195 => MR.lift (m__law_plus v194 v195)) >>= fun v197 => pure (v196, v197)) >>= fun d171 =>
  (((pure d163) >>= fun v198 => (pure d1) >>= fun v199 => MR.lift (eqM v198 v199)) >>= fun v221 => if v221 = true then ((((pure d1) >>= fun v200 => (pure d164) >>= fun v201 => MR.lift (m_at_hour v200 v201)) >>= fun v202 => (pure d171) >>= fun v203 => MR.lift (eqM v202 v203)) >>= fun v220 => if v220 = true then ((((pure d1) >>= fun v204 => (pure d18) >>= fun v205 => (pure (0 : Int)) >>= fun v206 => MR.lift (m_first_safe v204 v205 v206)) >>= fun v208 => ((pure (0 : Int)) >>= fun v207 => pure (some v207)) >>= fun v209 => MR.lift (eqM v208 v209)) >>= fun v219 => if v219 = true then ((((pure d1) >>= fun v210 => (pure d18) >>= fun v211 => MR.lift (m_meet_spot v210 v211)) >>= fun v212 => pure v212.isSome) >>= fun v217 => ((pure d121.2) >>= fun v215 => ((pure (0 : Int)) >>= fun v213 => (pure (1 : Int)) >>= fun v214 => pure (v213, v214)) >>= fun v216 => MR.lift (eqM v215 v216)) >>= fun v218 => MR.lift (eqM v217 v218)) else pure false) else pure false) else pure false)))
theorem fn_holds {P : Program} {w : World} {K : PySem.W.Frag} {mg : Str → Option Value} {base : Heap} {f_ : Addr} {fd : FuncData} (F : Fun K "_law_holds" "_law_holds" s__law_holds f_ fd) (b_range : mg "range" = none) (D__law_least : ∀ A : Around, Room 8 A → Dfn P w K mg base A "_law_least" 2 (M2 m__law_least)) (D__law_plus : ∀ A : Around, Room 8 A → Dfn P w K mg base A "_law_plus" 2 (M2 m__law_plus)) (D__law_times : ∀ A : Around, Room 8 A → Dfn P w K mg base A "_law_times" 2 (M2 m__law_times)) (D_at_hour : ∀ A : Around, Room 8 A → Dfn P w K mg base A "at_hour" 2 (M2 m_at_hour)) (D_closest : ∀ A : Around, Room 8 A → Dfn P w K mg base A "closest" 2 (M2 m_closest)) (D_first_safe : ∀ A : Around, Room 8 A → Dfn P w K mg base A "first_safe" 3 (M3 m_first_safe)) (D_is_safe : ∀ A : Around, Room 8 A → Dfn P w K mg base A "is_safe" 3 (M3 m_is_safe)) (D_meet_spot : ∀ A : Around, Room 8 A → Dfn P w K mg base A "meet_spot" 2 (M2 m_meet_spot)) (D_square_at : ∀ A : Around, Room 8 A → Dfn P w K mg base A "square_at" 3 (M3 m_square_at)) (D_turned_right : ∀ A : Around, Room 8 A → Dfn P w K mg base A "turned_right" 1 (M1 m_turned_right)) (D_next : ∀ A : Around, Room 8 A → DfnN P w K mg base A) : FnOk P w K mg base CX0 9 f_ fd ["w"] (spH m_holds) := by
  refine fn_H (k := 8) F sc__law_holds m_holds rfl ?_
  intro a D ds cdv A outer s H E hr
  have hu := hr.units
  have D__law_least := D__law_least _ hr
  have D__law_plus := D__law_plus _ hr
  have D__law_times := D__law_times _ hr
  have D_at_hour := D_at_hour _ hr
  have D_closest := D_closest _ hr
  have D_first_safe := D_first_safe _ hr
  have D_is_safe := D_is_safe _ hr
  have D_meet_spot := D_meet_spot _ hr
  have D_square_at := D_square_at _ hr
  have D_turned_right := D_turned_right _ hr
  have D_next := D_next _ hr
  unfold m_holds
  exact (B_seq (S_asg 1 (EV.f (E_tupL (α := Int) (H_cons Rr.stb (fun _ _ => rfl) (E_next 0 ok__law_holds D_next rfl rfl rfl (.inl rfl) (fun _ _ => rfl) E_int) (H_cons Rr.stb (fun _ _ => rfl) (E_next 0 ok__law_holds D_next rfl rfl rfl (.inl rfl) (fun _ _ => rfl) E_int) (H_cons Rr.stb (fun _ _ => rfl) (E_sub Rr.stb (E_next 0 ok__law_holds D_next rfl rfl rfl (.inl rfl) (fun _ _ => rfl) E_int) E_int) (H_cons Rr.stb (fun _ _ => rfl) (E_sub Rr.stb (E_next 0 ok__law_holds D_next rfl rfl rfl (.inl rfl) (fun _ _ => rfl) E_int) E_int) H_nil)))) (by decide))) sc__law_holds.nd rfl (.inl rfl) rfl rfl)
  (B_seq (S_asg 2 (EV.f (E_tupL (α := Int) (H_cons Rr.stb (fun _ _ => rfl) (E_next 0 ok__law_holds D_next rfl rfl rfl (.inl rfl) (fun _ _ => rfl) E_int) (H_cons Rr.stb (fun _ _ => rfl) (E_next 0 ok__law_holds D_next rfl rfl rfl (.inl rfl) (fun _ _ => rfl) E_int) (H_cons Rr.stb (fun _ _ => rfl) (E_sub Rr.stb (E_next 0 ok__law_holds D_next rfl rfl rfl (.inl rfl) (fun _ _ => rfl) E_int) E_int) (H_cons Rr.stb (fun _ _ => rfl) (E_sub Rr.stb (E_next 0 ok__law_holds D_next rfl rfl rfl (.inl rfl) (fun _ _ => rfl) E_int) E_int) H_nil)))) (by decide))) sc__law_holds.nd rfl (.inl rfl) rfl rfl)
  (B_seq (S_asgT (E_tup4 Rr.stb (fun _ _ => rfl) (fun _ _ => rfl) (fun _ _ => rfl) (fun _ _ => rfl) (E_sub Rr.stb (E_ixT Rr.stb (E_v 2 ok__law_holds (.inl rfl) rfl (.inl rfl)) E_int) (E_ixT Rr.stb (E_v 1 ok__law_holds (.inl rfl) rfl (.inl rfl)) E_int)) (E_sub Rr.stb (E_ixT Rr.stb (E_v 2 ok__law_holds (.inl rfl) rfl (.inl rfl)) E_int) (E_ixT Rr.stb (E_v 1 ok__law_holds (.inl rfl) rfl (.inl rfl)) E_int)) (E_sub Rr.stb (E_ixT Rr.stb (E_v 2 ok__law_holds (.inl rfl) rfl (.inl rfl)) E_int) (E_ixT Rr.stb (E_v 1 ok__law_holds (.inl rfl) rfl (.inl rfl)) E_int)) (E_sub Rr.stb (E_ixT Rr.stb (E_v 2 ok__law_holds (.inl rfl) rfl (.inl rfl)) E_int) (E_ixT Rr.stb (E_v 1 ok__law_holds (.inl rfl) rfl (.inl rfl)) E_int))) (G_tup4 3 4 5 6 (fun t : (T4 Int Int Int Int) => enc t.a) (fun t : (T4 Int Int Int Int) => enc t.b) (fun t : (T4 Int Int Int Int) => enc t.c) (fun t : (T4 Int Int Int Int) => enc t.d) rfl sc__law_holds.nd rfl rfl rfl rfl (.inl rfl) (.inl rfl) (.inl rfl) (.inl rfl) (.inl rfl) (.inl rfl) (.inl rfl) (.inl rfl)) rfl rfl rfl)
  (B_seq (S_par2 7 8 (fun _ _ => rfl) (fun _ _ => rfl) (E_add Rr.stb (E_mul Rr.stb (E_v 5 ok__law_holds (.inl rfl) rfl (.inl rfl)) (E_v 5 ok__law_holds (.inl rfl) rfl (.inl rfl))) (E_mul Rr.stb (E_v 6 ok__law_holds (.inl rfl) rfl (.inl rfl)) (E_v 6 ok__law_holds (.inl rfl) rfl (.inl rfl)))) (E_add Rr.stb (E_mul Rr.stb (E_v 3 ok__law_holds (.inl rfl) rfl (.inl rfl)) (E_v 5 ok__law_holds (.inl rfl) rfl (.inl rfl))) (E_mul Rr.stb (E_v 4 ok__law_holds (.inl rfl) rfl (.inl rfl)) (E_v 6 ok__law_holds (.inl rfl) rfl (.inl rfl)))) rfl sc__law_holds.nd rfl rfl (by decide) rfl rfl rfl rfl)
  (B_seq (S_if (δ := ((Int × Int) × (Int × Int))) (ss' := [.k (.ref a), .v (fun g => enc g.1.1.1.1.2), .v (fun g => enc g.1.1.1.2), .u, .u, .u, .u, .u, .u, .v (fun g => enc g.2.1), .v (fun g => enc g.2.2), .u, .u, .u, .u, .u]) (TV.of_w (W_or Rr.stb (T_cmp (C_eq hu Rr.stb (E_v 7 ok__law_holds (.inl rfl) rfl (.inl rfl)) E_int)) (W_or1 (T_cmp (C_ge Rr.stb (E_v 8 ok__law_holds (.inl rfl) rfl (.inl rfl)) E_int)))))
  (B_seq (S_par2 9 10 (fun _ _ => rfl) (fun _ _ => rfl) (E_tup2 Rr.stb (fun _ _ => rfl) (fun _ _ => rfl) E_int E_int) (E_tup2 Rr.stb (fun _ _ => rfl) (fun _ _ => rfl) (E_add Rr.stb (E_mul Rr.stb (E_v 3 ok__law_holds (.inl rfl) rfl (.inl rfl)) (E_v 3 ok__law_holds (.inl rfl) rfl (.inl rfl))) (E_mul Rr.stb (E_v 4 ok__law_holds (.inl rfl) rfl (.inl rfl)) (E_v 4 ok__law_holds (.inl rfl) rfl (.inl rfl)))) E_int) rfl sc__law_holds.nd rfl rfl (by decide) rfl rfl rfl rfl)
  (B_end (.k (.v (fun _ => rfl) (.v (fun _ => rfl) (.u (.u (.u (.u (.u (.u (.v (fun _ => rfl) (.v (fun _ => rfl) (.u (.u (.u (.u (.u .nil))))))))))))))))) NdN.mono)
  (B_seq (S_par2 9 10 (fun _ _ => rfl) (fun _ _ => rfl) (E_callI2 D__law_least rfl rfl Rr.stb (fun _ _ => rfl) (fun _ _ => rfl) (E_sub Rr.stb E_int (E_v 8 ok__law_holds (.inl rfl) rfl (.inl rfl))) (E_v 7 ok__law_holds (.inl rfl) rfl (.inl rfl))) (E_callI2 D__law_least rfl rfl Rr.stb (fun _ _ => rfl) (fun _ _ => rfl) (E_mul Rr.stb (E_sub Rr.stb (E_mul Rr.stb (E_v 3 ok__law_holds (.inl rfl) rfl (.inl rfl)) (E_v 6 ok__law_holds (.inl rfl) rfl (.inl rfl))) (E_mul Rr.stb (E_v 4 ok__law_holds (.inl rfl) rfl (.inl rfl)) (E_v 5 ok__law_holds (.inl rfl) rfl (.inl rfl)))) (E_sub Rr.stb (E_mul Rr.stb (E_v 3 ok__law_holds (.inl rfl) rfl (.inl rfl)) (E_v 6 ok__law_holds (.inl rfl) rfl (.inl rfl))) (E_mul Rr.stb (E_v 4 ok__law_holds (.inl rfl) rfl (.inl rfl)) (E_v 5 ok__law_holds (.inl rfl) rfl (.inl rfl))))) (E_v 7 ok__law_holds (.inl rfl) rfl (.inl rfl))) rfl sc__law_holds.nd rfl rfl (by decide) rfl rfl rfl rfl)
  (B_end (.k (.v (fun _ => rfl) (.v (fun _ => rfl) (.u (.u (.u (.u (.u (.u (.v (fun _ => rfl) (.v (fun _ => rfl) (.u (.u (.u (.u (.u .nil))))))))))))))))) NdN.mono))
  (B_if1 (TV.of_w (W_or Rr.stb (T_cmp (C_ne hu Rr.stb (E_callI2 D_closest rfl rfl Rr.stb (fun _ _ => rfl) (fun _ _ => rfl) (E_v 1 ok__law_holds (.inl rfl) rfl (.inl rfl)) (E_v 2 ok__law_holds (.inl rfl) rfl (.inl rfl))) (E_tup2 Rr.stb (fun _ _ => rfl) (fun _ _ => rfl) (E_v 9 ok__law_holds (.inl rfl) rfl (.inl rfl)) (E_v 10 ok__law_holds (.inl rfl) rfl (.inl rfl))))) (W_or Rr.stb (T_cmp (C_ne hu Rr.stb (E_callI3 D_square_at rfl rfl Rr.stb (fun _ _ => rfl) (fun _ _ => rfl) (fun _ _ => rfl) (E_v 1 ok__law_holds (.inl rfl) rfl (.inl rfl)) (E_v 2 ok__law_holds (.inl rfl) rfl (.inl rfl)) (E_v 9 ok__law_holds (.inl rfl) rfl (.inl rfl))) (E_v 10 ok__law_holds (.inl rfl) rfl (.inl rfl)))) (W_or1 (T_cmp (C_ne hu Rr.stb (E_callI2 D_closest rfl rfl Rr.stb (fun _ _ => rfl) (fun _ _ => rfl) (E_v 2 ok__law_holds (.inl rfl) rfl (.inl rfl)) (E_v 1 ok__law_holds (.inl rfl) rfl (.inl rfl))) (E_tup2 Rr.stb (fun _ _ => rfl) (fun _ _ => rfl) (E_v 9 ok__law_holds (.inl rfl) rfl (.inl rfl)) (E_v 10 ok__law_holds (.inl rfl) rfl (.inl rfl))))))))) (B_ret (EV.f E_bl))
  (B_seq (S_asg 11 (EV.f (E_next 0 ok__law_holds D_next rfl rfl rfl (.inl rfl) (fun _ _ => rfl) E_int)) sc__law_holds.nd rfl (.inl rfl) rfl rfl)
  (B_if1 (T_cmp (C_ne hu Rr.stb (E_callI3 D_is_safe rfl rfl Rr.stb (fun _ _ => rfl) (fun _ _ => rfl) (fun _ _ => rfl) (E_v 1 ok__law_holds (.inl rfl) rfl (.inl rfl)) (E_v 2 ok__law_holds (.inl rfl) rfl (.inl rfl)) (E_v 11 ok__law_holds (.inl rfl) rfl (.inl rfl))) (E_cmp (C_ge Rr.stb (E_fld (fun t : (Int × Int) => t.1) 0 (E_v 10 ok__law_holds (.inl rfl) rfl (.inl rfl))) (E_mul Rr.stb (E_v 11 ok__law_holds (.inl rfl) rfl (.inl rfl)) (E_fld (fun t : (Int × Int) => t.2) 1 (E_v 10 ok__law_holds (.inl rfl) rfl (.inl rfl)))))))) (B_ret (EV.f E_bl))
  (B_seq (S_asg 12 (EV.f (E_v 1 ok__law_holds (.inl rfl) rfl (.inl rfl))) sc__law_holds.nd rfl (.inl rfl) rfl rfl)
  (B_seq (S_for' (δ := (List Int)) (fun g : (((((((Unit × (List Int)) × (List Int)) × (T4 Int Int Int Int)) × (Int × Int)) × ((Int × Int) × (Int × Int))) × Int) × (List Int)) => g.2) (ssL := [.k (.ref a), .v (fun g => enc g.1.1.1.1.1.1.1.2), .v (fun g => enc g.1.1.1.1.1.1.2), .u, .u, .u, .u, .u, .u, .u, .v (fun g => enc g.1.1.1.2.2), .u, .v (fun g => enc g.2), .u, .u, .u]) (.k (.v (fun _ => rfl) (.v (fun _ => rfl) (.u (.u (.u (.u (.u (.u (.u (.v (fun _ => rfl) (.u (.v (fun _ => rfl) (.u (.u (.u .nil))))))))))))))))
  (I_rng1 b_range rfl (fun _ _ => rfl) E_int) (G_name 13 sc__law_holds.nd rfl (.inl rfl) (.inl rfl))
  (B_seq (S_asg 12 (EV.f (E_callI1 D_turned_right rfl rfl Rr.stb (fun _ _ => rfl) (E_v 12 ok__law_holds (.inl rfl) rfl (.inl rfl)))) sc__law_holds.nd rfl (.inl rfl) rfl rfl)
  (B_end (.k (.v (fun _ => rfl) (.v (fun _ => rfl) (.u (.u (.u (.u (.u (.u (.u (.v (fun _ => rfl) (.u (.v (fun _ => rfl) (.u (.u (.u .nil))))))))))))))))) NdN.mono) rfl PassesOwn.never (fun _ => rfl))
  (B_seq (S_asg 14 (EV.f (E_callI2 D__law_least rfl rfl Rr.stb (fun _ _ => rfl) (fun _ _ => rfl) (E_next 0 ok__law_holds D_next rfl rfl rfl (.inl rfl) (fun _ _ => rfl) E_int) (E_add Rr.stb E_int (E_next 0 ok__law_holds D_next rfl rfl rfl (.inl rfl) (fun _ _ => rfl) E_int)))) sc__law_holds.nd rfl (.inl rfl) rfl rfl)
  (B_seq (S_asg 15 (EV.f (E_tup2 Rr.stb (fun _ _ => rfl) (fun _ _ => rfl) (E_callI2 D__law_plus rfl rfl Rr.stb (fun _ _ => rfl) (fun _ _ => rfl) (E_tup2 Rr.stb (fun _ _ => rfl) (fun _ _ => rfl) (E_ixT Rr.stb (E_v 1 ok__law_holds (.inl rfl) rfl (.inl rfl)) E_int) E_int) (E_callI2 D__law_times rfl rfl Rr.stb (fun _ _ => rfl) (fun _ _ => rfl) (E_v 14 ok__law_holds (.inl rfl) rfl (.inl rfl)) (E_tup2 Rr.stb (fun _ _ => rfl) (fun _ _ => rfl) (E_ixT Rr.stb (E_v 1 ok__law_holds (.inl rfl) rfl (.inl rfl)) E_int) E_int))) (E_callI2 D__law_plus rfl rfl Rr.stb (fun _ _ => rfl) (fun _ _ => rfl) (E_tup2 Rr.stb (fun _ _ => rfl) (fun _ _ => rfl) (E_ixT Rr.stb (E_v 1 ok__law_holds (.inl rfl) rfl (.inl rfl)) E_int) E_int) (E_callI2 D__law_times rfl rfl Rr.stb (fun _ _ => rfl) (fun _ _ => rfl) (E_v 14 ok__law_holds (.inl rfl) rfl (.inl rfl)) (E_tup2 Rr.stb (fun _ _ => rfl) (fun _ _ => rfl) (E_ixT Rr.stb (E_v 1 ok__law_holds (.inl rfl) rfl (.inl rfl)) E_int) E_int))))) sc__law_holds.nd rfl (.inl rfl) rfl rfl)
  (B_ret (EV.f (E_and Rr.stb (E_cmp (C_eq hu Rr.stb (E_v 12 ok__law_holds (.inl rfl) rfl (.inl rfl)) (E_v 1 ok__law_holds (.inl rfl) rfl (.inl rfl)))) (E_and Rr.stb (E_cmp (C_eq hu Rr.stb (E_callI2 D_at_hour rfl rfl Rr.stb (fun _ _ => rfl) (fun _ _ => rfl) (E_v 1 ok__law_holds (.inl rfl) rfl (.inl rfl)) (E_v 14 ok__law_holds (.inl rfl) rfl (.inl rfl))) (E_v 15 ok__law_holds (.inl rfl) rfl (.inl rfl)))) (E_and Rr.stb (E_cmp (C_eq hu Rr.stb (E_callI3 D_first_safe rfl rfl Rr.stb (fun _ _ => rfl) (fun _ _ => rfl) (fun _ _ => rfl) (E_v 1 ok__law_holds (.inl rfl) rfl (.inl rfl)) (E_v 2 ok__law_holds (.inl rfl) rfl (.inl rfl)) E_int) (E_as some E_int))) (E_bone (E_cmp (C_eq hu Rr.stb (E_cmp (C_notN Rr.stb (E_callI2 D_meet_spot rfl rfl Rr.stb (fun _ _ => rfl) (fun _ _ => rfl) (E_v 1 ok__law_holds (.inl rfl) rfl (.inl rfl)) (E_v 2 ok__law_holds (.inl rfl) rfl (.inl rfl))))) (E_cmp (C_eq hu Rr.stb (E_v 10 ok__law_holds (.inl rfl) rfl (.inl rfl)) (E_tup2 Rr.stb (fun _ _ => rfl) (fun _ _ => rfl) E_int E_int))))))))))) NdR.mono) NdR.mono) NdR.mono) NdR.mono)) NdR.mono)) NdR.mono) NdR.mono) NdR.mono) NdR.mono) NdR.mono)


abbrev s__law_next : Stmt := topS 18
theorem sc__law_next : FnScope ["w", "many"] ["w", "many"] (defScope s__law_next) := ⟨rfl, rfl, rfl, by decide +kernel, rfl, by decide +kernel, by decide +kernel⟩
abbrev s_law : Stmt := topS 23
theorem sc_law : FnScope ["script", "w", "turn"] ["script"] (defScope s_law) := ⟨rfl, rfl, rfl, by decide +kernel, rfl, by decide +kernel, by decide +kernel⟩
section
variable {P : Program} {w : World} {K : PySem.W.Frag} {mg : Str → Option Value} {base : Heap}
theorem fn_next {f_ : Addr} {fd : FuncData} (F : Fun K "_law_next" "_law_next" s__law_next f_ fd) (b_len : mg "len" = none) (b_int : mg "int" = none) : FnOk P w K mg base CX0 1 f_ fd ["w", "many"] (spN K) := by
  refine F.ok sc__law_next (fun vs H Q E h => h.1) (fun cdv A outer s H vs Q E hr h => ?_)
  obtain ⟨_, a, D, ds, n, many, r, n', rfl, hW, hn, q⟩ := h
  obtain ⟨hA, hD, h0⟩ := id hW
  have hu := hu_of hr
  refine ⟨_, pss_cons (ps_daug hu (pv 0) pe_str pe_int in_add (fun _ _ _ => rfl))
    (pss_cons (ps_if (pt_cmpR op_gt (pe_dget hu (pv 0) pe_str (fun _ _ => rfl)) (pe_callB call_len_seq (by rfl) b_len PySem.boot_len (pa_cons (pe_dget hu (pv 0) pe_str (fun _ _ => rfl)) pa_nil)) (nomark _)) (pss_one (ps_ret pe_int)) pss_nil)
    (pss_one (ps_ret (pe_op op_modN (pe_callTy call_int1 (by rfl) b_int (by decide +kernel) (pa_cons (pe_ix ix_list (pe_dget hu (pv 0) pe_str (fun _ _ => rfl)) (pe_op op_sub (pe_dget hu (pv 0) pe_str (fun _ _ => rfl)) pe_int) (fun _ _ => rfl)) pa_nil)) (pv 1))))), ?_⟩
  have hDa : D ≠ a := fun c => by subst c; rw [hD] at hA; cases hA
  refine ⟨.ref a, rfl, a, .int n, rfl, valV_at ▸ DGet.k (k := kAt) hA, n, 1, rfl, rfl, _, DPut.k (k := kAt) hA (by show 2 < sizeLine; decide), ?_⟩
  rw [putK_at]
  have gA : (upd H a (.dK [(kDraws, .ref D), (kAt, .int (n + 1))])) a = some (.dK [(kDraws, .ref D), (kAt, .int (n + 1))]) := upd_same
  have gD : (upd H a (.dK [(kDraws, .ref D), (kAt, .int (n + 1))])) D = some (.lst (ds.map V.int)) := by rw [upd_ne hDa]; exact hD
  have g1 : gr (Wl a D ds).Av H (upd H a (.dK [(kDraws, .ref D), (kAt, .int (n + 1))])) := grMut hA (fun z => z) (.inl rfl)
  have w1 : (Wl a D ds).WI (n + 1) (upd H a (.dK [(kDraws, .ref D), (kAt, .int (n + 1))])) := ⟨gA, gD, by omega⟩
  have a1 : DGet (upd H a (.dK [(kDraws, .ref D), (kAt, .int (n + 1))])) a (.str "at") (some (.int (n + 1))) := valV_at ▸ DGet.k (k := kAt) gA
  have a2 : DGet (upd H a (.dK [(kDraws, .ref D), (kAt, .int (n + 1))])) a (.str "draws") (some (.ref D)) := valV_draws ▸ DGet.k (k := kDraws) gA
  refine ⟨.ref a, rfl, a, .int (n + 1), rfl, a1, .ref a, rfl, a, .ref D, rfl, a2, D, _, rfl, .inl (.of gD), n + 1, _, rfl, rfl, _, rfl, ite2 (fun c => ?_) (fun c => ?_)⟩
  · have c1 := of_decide_eq_true c
    rw [List.length_map] at c1
    unfold nxt at hn
    rw [if_pos c1] at hn
    cases hn
    exact q _ g1 w1
  · have c1 : ¬ ((ds.length : Int) < n + 1) := fun z => c (decide_eq_true (by rw [List.length_map]; exact z))
    unfold nxt at hn
    rw [if_neg c1] at hn
    cases e1 : atI ds n with
    | none => rw [e1] at hn; cases hn
    | some x =>
      rw [e1] at hn
      have hn : (modM x many).map (fun r => (r, n + 1)) = some (r, n') := hn
      unfold modM at hn
      by_cases hm : many ≠ 0
      · rw [if_pos hm] at hn
        cases hn
        have e2 : atI (ds.map V.int) (n + 1 - 1) = some (.int x) := by
          rw [Int.add_sub_cancel]
          unfold atI at e1 ⊢
          rw [List.length_map]
          cases q1 : ixN ds.length n with
          | none => rw [q1] at e1; cases e1
          | some j =>
            rw [q1] at e1
            have e1 : ds[j]? = some x := e1
            show (ds.map V.int)[j]? = _
            rw [List.getElem?_map, e1]; rfl
        exact ⟨.ref a, rfl, a, .ref D, rfl, a2, .ref a, rfl, a, .int (n + 1), rfl, a1, n + 1, 1, rfl, rfl, D, _, _, _, rfl, rfl, .of gD, e2, .inl ⟨x, rfl, .int many, rfl, x, many, rfl, rfl, hm, q _ g1 w1⟩⟩
      · rw [if_neg hm] at hn
        cases hn
theorem fn_law {f_ fD fH : Addr} {fd fdD fdH : FuncData} (F : Fun K "law" "law" s_law f_ fd) (GD : FnOk P w K mg base CX0 1 fD fdD ["script", "many"] (spDr K m_draws)) (kpD : PySem.W.keepIn K (.ref fD) = true) (bD : Binds K fdD ["script", "many"] []) (gD : mg "_law_draws" = some (.ref fD))
    (GH : FnOk P w K mg base CX0 9 fH fdH ["w"] (spH m_holds)) (kpH : PySem.W.keepIn K (.ref fH) = true) (bH : Binds K fdH ["w"] []) (gH : mg "_law_holds" = some (.ref fH)) (b_range : mg "range" = none)
    (Pd : List Int → Prop) (hm1 : ∀ ns : List Int, ns.length ≤ 63 → ∃ l, m_draws ns 200 = some l ∧ Pd l.l) (hm2 : ∀ ds, Pd ds → ∀ n, 0 ≤ n → ∃ n', m_holds ds n = some (true, n')) : FnOk P w K mg base CX0 10 f_ fd ["script"] (spLaw K) := by
  refine F.ok sc_law (fun vs H Q E h => by obtain ⟨a, ns, rfl, _⟩ := h; rfl) (fun cdv A outer s H vs Q E hr h => ?_)
  obtain ⟨a, ns, rfl, hS, hlen, q⟩ := h
  obtain ⟨l, hl, hP⟩ := hm1 ns hlen
  refine ⟨_, pss_cons (ps_set (i := 1) sc_law.nd rfl (.inl rfl) (pe_disp (pps_cons pe_str (pe_call GD (hr.mono (by decide)) (by rfl) gD kpD bD .nil pass0 (pa_cons (pv 0) (pa_cons pe_int pa_nil))) (pps_cons pe_str pe_int pps_nil)) (by rfl) (by rfl) (fun z => by cases z) (by decide)))
    (pss_cons (ps_for PassesOwn.never rfl (pi_range1 (by rfl) b_range (pa_cons pe_int pa_nil)) (pg_name (i := 2) sc_law.nd rfl (.inl rfl)) (pss_one (ps_if (pt_not (pt_val (pe_call GH hr (by rfl) gH kpH bH .nil pass0 (pa_cons (pv 1) pa_nil)))) (pss_one (ps_ret pe_bl)) pss_nil)))
    (pss_one (ps_ret pe_bl))), ?_⟩
  intro p hp
  refine ⟨.ref a, rfl, rfl, a, ns, 200, l, rfl, (same_new hp).seq hS, hl, fun v H1 sm p1 => ?_⟩
  obtain ⟨D, xs, rfl, hn, hz, hD, hx⟩ := p1.lst_inv
  have hx := ints_inv hx
  subst hx
  have hDp : D ≠ p := fun c => by
    subst c
    exact hn (by rw [upd_same]; simp)
  refine ⟨sm p _ upd_same, [(kDraws, .ref D), (kAt, .int 0)], rfl, (by show 2 ≤ 15; decide), ?_⟩
  rw [merge_w]
  refine ⟨4, rfl, by decide, by decide, for_range (lo := 0) (n := 4) (fun _ σ H => (∃ x, σ = [some (.ref a), some (.ref p), x]) ∧ ∃ n, (Wl p D l.l).WI n H) ⟨⟨none, rfl⟩, 0, upd_same, by rw [upd_ne hDp]; exact hD, by decide⟩ ?_ ?_⟩
  · rintro i σ H2 hi ⟨⟨x, rfl⟩, n, hW⟩
    obtain ⟨n', h2⟩ := hm2 l.l hP n hW.2.2
    refine ⟨.ref p, rfl, rfl, p, D, l.l, n, true, n', rfl, hW, h2, fun H3 g3 w3 => ⟨true, rfl, ?_⟩⟩
    exact iteF ⟨⟨_, rfl⟩, n', w3⟩
  · rintro σ H2 _
    exact q H2
end
theorem all_mk {l : PySem.W.OpenLaw} {w : World} {K : PySem.W.Frag} {h : Heap} {mg : Str → Option Value} {fa : Addr} (X : K.In h) (G : h.Ns mainGlobals mg) (hfa : mg "law" = some (.ref fa))
    {f_common f_fraction f_plus f_times f_is_less f_at_hour f_gap_of f_square_at f_closest f_is_safe f_turned_right f_first_safe f_meet_spot f__law_draws f__law_next f__law_least f__law_plus f__law_times f__law_holds f_law ad_NOTHING : Addr} {od_common an_common od_fraction an_fraction od_plus an_plus od_times an_times od_is_less an_is_less od_at_hour an_at_hour od_gap_of an_gap_of od_square_at an_square_at od_closest an_closest od_is_safe an_is_safe od_turned_right an_turned_right od_first_safe an_first_safe od_meet_spot an_meet_spot od__law_draws an__law_draws od__law_next an__law_next od__law_least an__law_least od__law_plus an__law_plus od__law_times an__law_times od__law_holds an__law_holds od_law an_law dd_NOTHING : Option Addr} {sl_common sl_fraction sl_plus sl_times sl_is_less sl_at_hour sl_gap_of sl_square_at sl_closest sl_is_safe sl_turned_right sl_first_safe sl_meet_spot sl__law_draws sl__law_next sl__law_least sl__law_plus sl__law_times sl__law_holds sl_law ss_NOTHING : Array (Option Value)} {oc_common kV_common dc_common pm_common cd_common ct_common oc_fraction kV_fraction dc_fraction pm_fraction cd_fraction ct_fraction oc_plus kV_plus dc_plus pm_plus cd_plus ct_plus oc_times kV_times dc_times pm_times cd_times ct_times oc_is_less kV_is_less dc_is_less pm_is_less cd_is_less ct_is_less oc_at_hour kV_at_hour dc_at_hour pm_at_hour cd_at_hour ct_at_hour oc_gap_of kV_gap_of dc_gap_of pm_gap_of cd_gap_of ct_gap_of oc_square_at kV_square_at dc_square_at pm_square_at cd_square_at ct_square_at oc_closest kV_closest dc_closest pm_closest cd_closest ct_closest oc_is_safe kV_is_safe dc_is_safe pm_is_safe cd_is_safe ct_is_safe oc_turned_right kV_turned_right dc_turned_right pm_turned_right cd_turned_right ct_turned_right oc_first_safe kV_first_safe dc_first_safe pm_first_safe cd_first_safe ct_first_safe oc_meet_spot kV_meet_spot dc_meet_spot pm_meet_spot cd_meet_spot ct_meet_spot oc__law_draws kV__law_draws dc__law_draws pm__law_draws cd__law_draws ct__law_draws oc__law_next kV__law_next dc__law_next pm__law_next cd__law_next ct__law_next oc__law_least kV__law_least dc__law_least pm__law_least cd__law_least ct__law_least oc__law_plus kV__law_plus dc__law_plus pm__law_plus cd__law_plus ct__law_plus oc__law_times kV__law_times dc__law_times pm__law_times cd__law_times ct__law_times oc__law_holds kV__law_holds dc__law_holds pm__law_holds cd__law_holds ct__law_holds oc_law kV_law dc_law pm_law cd_law ct_law : Value} {nn_NOTHING : Nat} {t0_NOTHING t1_NOTHING : Tok}
    (a_common : PySem.W.nsIn K mainGlobals "common" = some (some (.ref f_common)))
    (l_common : K.lookup f_common = some ⟨oc_common, od_common, .func (PySem.W.fnOf "common" "common" (defArgs s_common) (defBody s_common) (defScope s_common) .none kV_common dc_common pm_common an_common cd_common ct_common), sl_common⟩)
    (c_common : PySem.W.codeIn K cd_common "common" = true)
    (k_common : PySem.W.keepIn K (.ref f_common) = true)
    (a_fraction : PySem.W.nsIn K mainGlobals "fraction" = some (some (.ref f_fraction)))
    (l_fraction : K.lookup f_fraction = some ⟨oc_fraction, od_fraction, .func (PySem.W.fnOf "fraction" "fraction" (defArgs s_fraction) (defBody s_fraction) (defScope s_fraction) .none kV_fraction dc_fraction pm_fraction an_fraction cd_fraction ct_fraction), sl_fraction⟩)
    (c_fraction : PySem.W.codeIn K cd_fraction "fraction" = true)
    (k_fraction : PySem.W.keepIn K (.ref f_fraction) = true)
    (a_plus : PySem.W.nsIn K mainGlobals "plus" = some (some (.ref f_plus)))
    (l_plus : K.lookup f_plus = some ⟨oc_plus, od_plus, .func (PySem.W.fnOf "plus" "plus" (defArgs s_plus) (defBody s_plus) (defScope s_plus) .none kV_plus dc_plus pm_plus an_plus cd_plus ct_plus), sl_plus⟩)
    (c_plus : PySem.W.codeIn K cd_plus "plus" = true)
    (k_plus : PySem.W.keepIn K (.ref f_plus) = true)
    (a_times : PySem.W.nsIn K mainGlobals "times" = some (some (.ref f_times)))
    (l_times : K.lookup f_times = some ⟨oc_times, od_times, .func (PySem.W.fnOf "times" "times" (defArgs s_times) (defBody s_times) (defScope s_times) .none kV_times dc_times pm_times an_times cd_times ct_times), sl_times⟩)
    (c_times : PySem.W.codeIn K cd_times "times" = true)
    (k_times : PySem.W.keepIn K (.ref f_times) = true)
    (a_is_less : PySem.W.nsIn K mainGlobals "is_less" = some (some (.ref f_is_less)))
    (l_is_less : K.lookup f_is_less = some ⟨oc_is_less, od_is_less, .func (PySem.W.fnOf "is_less" "is_less" (defArgs s_is_less) (defBody s_is_less) (defScope s_is_less) .none kV_is_less dc_is_less pm_is_less an_is_less cd_is_less ct_is_less), sl_is_less⟩)
    (c_is_less : PySem.W.codeIn K cd_is_less "is_less" = true)
    (k_is_less : PySem.W.keepIn K (.ref f_is_less) = true)
    (a_at_hour : PySem.W.nsIn K mainGlobals "at_hour" = some (some (.ref f_at_hour)))
    (l_at_hour : K.lookup f_at_hour = some ⟨oc_at_hour, od_at_hour, .func (PySem.W.fnOf "at_hour" "at_hour" (defArgs s_at_hour) (defBody s_at_hour) (defScope s_at_hour) .none kV_at_hour dc_at_hour pm_at_hour an_at_hour cd_at_hour ct_at_hour), sl_at_hour⟩)
    (c_at_hour : PySem.W.codeIn K cd_at_hour "at_hour" = true)
    (k_at_hour : PySem.W.keepIn K (.ref f_at_hour) = true)
    (a_gap_of : PySem.W.nsIn K mainGlobals "gap_of" = some (some (.ref f_gap_of)))
    (l_gap_of : K.lookup f_gap_of = some ⟨oc_gap_of, od_gap_of, .func (PySem.W.fnOf "gap_of" "gap_of" (defArgs s_gap_of) (defBody s_gap_of) (defScope s_gap_of) .none kV_gap_of dc_gap_of pm_gap_of an_gap_of cd_gap_of ct_gap_of), sl_gap_of⟩)
    (c_gap_of : PySem.W.codeIn K cd_gap_of "gap_of" = true)
    (k_gap_of : PySem.W.keepIn K (.ref f_gap_of) = true)
    (a_square_at : PySem.W.nsIn K mainGlobals "square_at" = some (some (.ref f_square_at)))
    (l_square_at : K.lookup f_square_at = some ⟨oc_square_at, od_square_at, .func (PySem.W.fnOf "square_at" "square_at" (defArgs s_square_at) (defBody s_square_at) (defScope s_square_at) .none kV_square_at dc_square_at pm_square_at an_square_at cd_square_at ct_square_at), sl_square_at⟩)
    (c_square_at : PySem.W.codeIn K cd_square_at "square_at" = true)
    (k_square_at : PySem.W.keepIn K (.ref f_square_at) = true)
    (a_closest : PySem.W.nsIn K mainGlobals "closest" = some (some (.ref f_closest)))
    (l_closest : K.lookup f_closest = some ⟨oc_closest, od_closest, .func (PySem.W.fnOf "closest" "closest" (defArgs s_closest) (defBody s_closest) (defScope s_closest) .none kV_closest dc_closest pm_closest an_closest cd_closest ct_closest), sl_closest⟩)
    (c_closest : PySem.W.codeIn K cd_closest "closest" = true)
    (k_closest : PySem.W.keepIn K (.ref f_closest) = true)
    (a_is_safe : PySem.W.nsIn K mainGlobals "is_safe" = some (some (.ref f_is_safe)))
    (l_is_safe : K.lookup f_is_safe = some ⟨oc_is_safe, od_is_safe, .func (PySem.W.fnOf "is_safe" "is_safe" (defArgs s_is_safe) (defBody s_is_safe) (defScope s_is_safe) .none kV_is_safe dc_is_safe pm_is_safe an_is_safe cd_is_safe ct_is_safe), sl_is_safe⟩)
    (c_is_safe : PySem.W.codeIn K cd_is_safe "is_safe" = true)
    (k_is_safe : PySem.W.keepIn K (.ref f_is_safe) = true)
    (a_turned_right : PySem.W.nsIn K mainGlobals "turned_right" = some (some (.ref f_turned_right)))
    (l_turned_right : K.lookup f_turned_right = some ⟨oc_turned_right, od_turned_right, .func (PySem.W.fnOf "turned_right" "turned_right" (defArgs s_turned_right) (defBody s_turned_right) (defScope s_turned_right) .none kV_turned_right dc_turned_right pm_turned_right an_turned_right cd_turned_right ct_turned_right), sl_turned_right⟩)
    (c_turned_right : PySem.W.codeIn K cd_turned_right "turned_right" = true)
    (k_turned_right : PySem.W.keepIn K (.ref f_turned_right) = true)
    (a_first_safe : PySem.W.nsIn K mainGlobals "first_safe" = some (some (.ref f_first_safe)))
    (l_first_safe : K.lookup f_first_safe = some ⟨oc_first_safe, od_first_safe, .func (PySem.W.fnOf "first_safe" "first_safe" (defArgs s_first_safe) (defBody s_first_safe) (defScope s_first_safe) .none kV_first_safe dc_first_safe pm_first_safe an_first_safe cd_first_safe ct_first_safe), sl_first_safe⟩)
    (c_first_safe : PySem.W.codeIn K cd_first_safe "first_safe" = true)
    (k_first_safe : PySem.W.keepIn K (.ref f_first_safe) = true)
    (a_meet_spot : PySem.W.nsIn K mainGlobals "meet_spot" = some (some (.ref f_meet_spot)))
    (l_meet_spot : K.lookup f_meet_spot = some ⟨oc_meet_spot, od_meet_spot, .func (PySem.W.fnOf "meet_spot" "meet_spot" (defArgs s_meet_spot) (defBody s_meet_spot) (defScope s_meet_spot) .none kV_meet_spot dc_meet_spot pm_meet_spot an_meet_spot cd_meet_spot ct_meet_spot), sl_meet_spot⟩)
    (c_meet_spot : PySem.W.codeIn K cd_meet_spot "meet_spot" = true)
    (k_meet_spot : PySem.W.keepIn K (.ref f_meet_spot) = true)
    (a__law_draws : PySem.W.nsIn K mainGlobals "_law_draws" = some (some (.ref f__law_draws)))
    (l__law_draws : K.lookup f__law_draws = some ⟨oc__law_draws, od__law_draws, .func (PySem.W.fnOf "_law_draws" "_law_draws" (defArgs s__law_draws) (defBody s__law_draws) (defScope s__law_draws) .none kV__law_draws dc__law_draws pm__law_draws an__law_draws cd__law_draws ct__law_draws), sl__law_draws⟩)
    (c__law_draws : PySem.W.codeIn K cd__law_draws "_law_draws" = true)
    (k__law_draws : PySem.W.keepIn K (.ref f__law_draws) = true)
    (a__law_next : PySem.W.nsIn K mainGlobals "_law_next" = some (some (.ref f__law_next)))
    (l__law_next : K.lookup f__law_next = some ⟨oc__law_next, od__law_next, .func (PySem.W.fnOf "_law_next" "_law_next" (defArgs s__law_next) (defBody s__law_next) (defScope s__law_next) .none kV__law_next dc__law_next pm__law_next an__law_next cd__law_next ct__law_next), sl__law_next⟩)
    (c__law_next : PySem.W.codeIn K cd__law_next "_law_next" = true)
    (k__law_next : PySem.W.keepIn K (.ref f__law_next) = true)
    (a__law_least : PySem.W.nsIn K mainGlobals "_law_least" = some (some (.ref f__law_least)))
    (l__law_least : K.lookup f__law_least = some ⟨oc__law_least, od__law_least, .func (PySem.W.fnOf "_law_least" "_law_least" (defArgs s__law_least) (defBody s__law_least) (defScope s__law_least) .none kV__law_least dc__law_least pm__law_least an__law_least cd__law_least ct__law_least), sl__law_least⟩)
    (c__law_least : PySem.W.codeIn K cd__law_least "_law_least" = true)
    (k__law_least : PySem.W.keepIn K (.ref f__law_least) = true)
    (a__law_plus : PySem.W.nsIn K mainGlobals "_law_plus" = some (some (.ref f__law_plus)))
    (l__law_plus : K.lookup f__law_plus = some ⟨oc__law_plus, od__law_plus, .func (PySem.W.fnOf "_law_plus" "_law_plus" (defArgs s__law_plus) (defBody s__law_plus) (defScope s__law_plus) .none kV__law_plus dc__law_plus pm__law_plus an__law_plus cd__law_plus ct__law_plus), sl__law_plus⟩)
    (c__law_plus : PySem.W.codeIn K cd__law_plus "_law_plus" = true)
    (k__law_plus : PySem.W.keepIn K (.ref f__law_plus) = true)
    (a__law_times : PySem.W.nsIn K mainGlobals "_law_times" = some (some (.ref f__law_times)))
    (l__law_times : K.lookup f__law_times = some ⟨oc__law_times, od__law_times, .func (PySem.W.fnOf "_law_times" "_law_times" (defArgs s__law_times) (defBody s__law_times) (defScope s__law_times) .none kV__law_times dc__law_times pm__law_times an__law_times cd__law_times ct__law_times), sl__law_times⟩)
    (c__law_times : PySem.W.codeIn K cd__law_times "_law_times" = true)
    (k__law_times : PySem.W.keepIn K (.ref f__law_times) = true)
    (a__law_holds : PySem.W.nsIn K mainGlobals "_law_holds" = some (some (.ref f__law_holds)))
    (l__law_holds : K.lookup f__law_holds = some ⟨oc__law_holds, od__law_holds, .func (PySem.W.fnOf "_law_holds" "_law_holds" (defArgs s__law_holds) (defBody s__law_holds) (defScope s__law_holds) .none kV__law_holds dc__law_holds pm__law_holds an__law_holds cd__law_holds ct__law_holds), sl__law_holds⟩)
    (c__law_holds : PySem.W.codeIn K cd__law_holds "_law_holds" = true)
    (k__law_holds : PySem.W.keepIn K (.ref f__law_holds) = true)
    (a_law : PySem.W.nsIn K mainGlobals "law" = some (some (.ref f_law)))
    (l_law : K.lookup f_law = some ⟨oc_law, od_law, .func (PySem.W.fnOf "law" "law" (defArgs s_law) (defBody s_law) (defScope s_law) .none kV_law dc_law pm_law an_law cd_law ct_law), sl_law⟩)
    (c_law : PySem.W.codeIn K cd_law "law" = true)
    (k_law : PySem.W.keepIn K (.ref f_law) = true)
    (z_abs : PySem.W.nsIn K mainGlobals "abs" = some none)
    (z_int : PySem.W.nsIn K mainGlobals "int" = some none)
    (z_len : PySem.W.nsIn K mainGlobals "len" = some none)
    (z_range : PySem.W.nsIn K mainGlobals "range" = some none)
    (z_tuple : PySem.W.nsIn K mainGlobals "tuple" = some none)
    (z_zip : PySem.W.nsIn K mainGlobals "zip" = some none)
    (ga_NOTHING : PySem.W.nsIn K mainGlobals "NOTHING" = some (some (.ref ad_NOTHING)))
    (gl_NOTHING : K.lookup ad_NOTHING = some ⟨.type "tuple", dd_NOTHING, .seq #[.int 0 t0_NOTHING, .int 1 t1_NOTHING] nn_NOTHING, ss_NOTHING⟩)
    (Pd : List Int → Prop) (hm1 : ∀ ns : List Int, ns.length ≤ 63 → ∃ l, m_draws ns 200 = some l ∧ Pd l.l) (hm2 : ∀ ds, Pd ds → ∀ n, 0 ≤ n → ∃ n', m_holds ds n = some (true, n')) :
    ∃ fd : FuncData, (∀ (s : Shared) (v : Value), BindsTo s fd ⟨[v], []⟩ [("script", v)]) ∧ ∀ base : Heap, K.In base → base.Ns mainGlobals mg → FnOk l.prog w K mg base CX0 10 fa fd ["script"] (spLaw K) := by
  have e := hfa.symm.trans (PySem.W.mg_of X G a_law)
  cases e
  have F_common := fun_mk (st := s_common) l_common c_common k_common
  have F_fraction := fun_mk (st := s_fraction) l_fraction c_fraction k_fraction
  have F_plus := fun_mk (st := s_plus) l_plus c_plus k_plus
  have F_times := fun_mk (st := s_times) l_times c_times k_times
  have F_is_less := fun_mk (st := s_is_less) l_is_less c_is_less k_is_less
  have F_at_hour := fun_mk (st := s_at_hour) l_at_hour c_at_hour k_at_hour
  have F_gap_of := fun_mk (st := s_gap_of) l_gap_of c_gap_of k_gap_of
  have F_square_at := fun_mk (st := s_square_at) l_square_at c_square_at k_square_at
  have F_closest := fun_mk (st := s_closest) l_closest c_closest k_closest
  have F_is_safe := fun_mk (st := s_is_safe) l_is_safe c_is_safe k_is_safe
  have F_turned_right := fun_mk (st := s_turned_right) l_turned_right c_turned_right k_turned_right
  have F_first_safe := fun_mk (st := s_first_safe) l_first_safe c_first_safe k_first_safe
  have F_meet_spot := fun_mk (st := s_meet_spot) l_meet_spot c_meet_spot k_meet_spot
  have F__law_draws := fun_mk (st := s__law_draws) l__law_draws c__law_draws k__law_draws
  have F__law_next := fun_mk (st := s__law_next) l__law_next c__law_next k__law_next
  have F__law_least := fun_mk (st := s__law_least) l__law_least c__law_least k__law_least
  have F__law_plus := fun_mk (st := s__law_plus) l__law_plus c__law_plus k__law_plus
  have F__law_times := fun_mk (st := s__law_times) l__law_times c__law_times k__law_times
  have F__law_holds := fun_mk (st := s__law_holds) l__law_holds c__law_holds k__law_holds
  have F_law := fun_mk (st := s_law) l_law c_law k_law
  have b_abs := PySem.W.mg_none_of X G z_abs
  have b_int := PySem.W.mg_none_of X G z_int
  have b_len := PySem.W.mg_none_of X G z_len
  have b_range := PySem.W.mg_none_of X G z_range
  have b_tuple := PySem.W.mg_none_of X G z_tuple
  have b_zip := PySem.W.mg_none_of X G z_zip
  have m_NOTHING := PySem.W.mg_of X G ga_NOTHING
  have c_NOTHING : KC K ad_NOTHING ((0, 1) : Int × Int) := kc_of (vs := [.int 0, .int 1]) gl_NOTHING rfl rfl (by show 2 ≤ sizeLine; decide) (.cons ⟨_, rfl⟩ (.cons ⟨_, rfl⟩ .nil)) rfl (fun A H => .cons (.int _) (.cons (.int _) .nil))
  have bi_common := F_common.binds (ps := ["a", "b"]) fun _ _ _ _ _ _ us hl => match us, hl with | [_, _], _ => rfl
  have g_common := PySem.W.mg_of X G a_common
  have bi_fraction := F_fraction.binds (ps := ["a", "b"]) fun _ _ _ _ _ _ us hl => match us, hl with | [_, _], _ => rfl
  have g_fraction := PySem.W.mg_of X G a_fraction
  have bi_plus := F_plus.binds (ps := ["one", "other"]) fun _ _ _ _ _ _ us hl => match us, hl with | [_, _], _ => rfl
  have g_plus := PySem.W.mg_of X G a_plus
  have bi_times := F_times.binds (ps := ["one", "other"]) fun _ _ _ _ _ _ us hl => match us, hl with | [_, _], _ => rfl
  have g_times := PySem.W.mg_of X G a_times
  have bi_is_less := F_is_less.binds (ps := ["one", "other"]) fun _ _ _ _ _ _ us hl => match us, hl with | [_, _], _ => rfl
  have g_is_less := PySem.W.mg_of X G a_is_less
  have bi_at_hour := F_at_hour.binds (ps := ["course", "t"]) fun _ _ _ _ _ _ us hl => match us, hl with | [_, _], _ => rfl
  have g_at_hour := PySem.W.mg_of X G a_at_hour
  have bi_gap_of := F_gap_of.binds (ps := ["one", "other"]) fun _ _ _ _ _ _ us hl => match us, hl with | [_, _], _ => rfl
  have g_gap_of := PySem.W.mg_of X G a_gap_of
  have bi_square_at := F_square_at.binds (ps := ["one", "other", "t"]) fun _ _ _ _ _ _ us hl => match us, hl with | [_, _, _], _ => rfl
  have g_square_at := PySem.W.mg_of X G a_square_at
  have bi_closest := F_closest.binds (ps := ["one", "other"]) fun _ _ _ _ _ _ us hl => match us, hl with | [_, _], _ => rfl
  have g_closest := PySem.W.mg_of X G a_closest
  have bi_is_safe := F_is_safe.binds (ps := ["one", "other", "apart"]) fun _ _ _ _ _ _ us hl => match us, hl with | [_, _, _], _ => rfl
  have g_is_safe := PySem.W.mg_of X G a_is_safe
  have bi_turned_right := F_turned_right.binds (ps := ["course"]) fun _ _ _ _ _ _ us hl => match us, hl with | [_], _ => rfl
  have g_turned_right := PySem.W.mg_of X G a_turned_right
  have bi_first_safe := F_first_safe.binds (ps := ["one", "other", "apart"]) fun _ _ _ _ _ _ us hl => match us, hl with | [_, _, _], _ => rfl
  have g_first_safe := PySem.W.mg_of X G a_first_safe
  have bi_meet_spot := F_meet_spot.binds (ps := ["one", "other"]) fun _ _ _ _ _ _ us hl => match us, hl with | [_, _], _ => rfl
  have g_meet_spot := PySem.W.mg_of X G a_meet_spot
  have bi__law_draws := F__law_draws.binds (ps := ["script", "many"]) fun _ _ _ _ _ _ us hl => match us, hl with | [_, _], _ => rfl
  have g__law_draws := PySem.W.mg_of X G a__law_draws
  have bi__law_next := F__law_next.binds (ps := ["w", "many"]) fun _ _ _ _ _ _ us hl => match us, hl with | [_, _], _ => rfl
  have g__law_next := PySem.W.mg_of X G a__law_next
  have bi__law_least := F__law_least.binds (ps := ["a", "b"]) fun _ _ _ _ _ _ us hl => match us, hl with | [_, _], _ => rfl
  have g__law_least := PySem.W.mg_of X G a__law_least
  have bi__law_plus := F__law_plus.binds (ps := ["a", "b"]) fun _ _ _ _ _ _ us hl => match us, hl with | [_, _], _ => rfl
  have g__law_plus := PySem.W.mg_of X G a__law_plus
  have bi__law_times := F__law_times.binds (ps := ["a", "b"]) fun _ _ _ _ _ _ us hl => match us, hl with | [_, _], _ => rfl
  have g__law_times := PySem.W.mg_of X G a__law_times
  have bi__law_holds := F__law_holds.binds (ps := ["w"]) fun _ _ _ _ _ _ us hl => match us, hl with | [_], _ => rfl
  have g__law_holds := PySem.W.mg_of X G a__law_holds
  refine ⟨PySem.W.fnOf "law" "law" (defArgs s_law) (defBody s_law) (defScope s_law) .none kV_law dc_law pm_law an_law cd_law ct_law, fun s v => .of_eq rfl, fun base _ _ => ?_⟩
  have G__law_next : FnOk l.prog w K mg base CX0 1 _ _ ["w", "many"] (spN K) := fn_next F__law_next b_len b_int
  have N_next : ∀ A : Around, Room 8 A → DfnN l.prog w K mg base A := fun A hr => ⟨⟨1, _, _, _, G__law_next, hr.mono (by decide), g__law_next, k__law_next, bi__law_next⟩⟩
  have G_common : FnOk l.prog w K mg base CX0 1 _ _ ["a", "b"] (spD K 2 (M2 m_common)) := fn_common F_common b_abs
  have G_fraction : FnOk l.prog w K mg base CX0 2 _ _ ["a", "b"] (spD K 2 (M2 m_fraction)) := fn_fraction F_fraction (fun A hr => ⟨⟨1, _, _, _, G_common, hr.mono (by decide), g_common, k_common, bi_common⟩⟩)
  have G_plus : FnOk l.prog w K mg base CX0 3 _ _ ["one", "other"] (spD K 2 (M2 m_plus)) := fn_plus F_plus (fun A hr => ⟨⟨2, _, _, _, G_fraction, hr.mono (by decide), g_fraction, k_fraction, bi_fraction⟩⟩)
  have G_times : FnOk l.prog w K mg base CX0 3 _ _ ["one", "other"] (spD K 2 (M2 m_times)) := fn_times F_times (fun A hr => ⟨⟨2, _, _, _, G_fraction, hr.mono (by decide), g_fraction, k_fraction, bi_fraction⟩⟩)
  have G_is_less : FnOk l.prog w K mg base CX0 1 _ _ ["one", "other"] (spD K 2 (M2 m_is_less)) := fn_is_less F_is_less
  have G_at_hour : FnOk l.prog w K mg base CX0 4 _ _ ["course", "t"] (spD K 2 (M2 m_at_hour)) := fn_at_hour F_at_hour (fun A hr => ⟨⟨3, _, _, _, G_plus, hr.mono (by decide), g_plus, k_plus, bi_plus⟩⟩) (fun A hr => ⟨⟨3, _, _, _, G_times, hr.mono (by decide), g_times, k_times, bi_times⟩⟩)
  have G_gap_of : FnOk l.prog w K mg base CX0 1 _ _ ["one", "other"] (spD K 2 (M2 m_gap_of)) := fn_gap_of F_gap_of b_tuple b_zip
  have G_square_at : FnOk l.prog w K mg base CX0 5 _ _ ["one", "other", "t"] (spD K 3 (M3 m_square_at)) := fn_square_at F_square_at (fun A hr => ⟨⟨4, _, _, _, G_at_hour, hr.mono (by decide), g_at_hour, k_at_hour, bi_at_hour⟩⟩) (fun A hr => ⟨⟨1, _, _, _, G_gap_of, hr.mono (by decide), g_gap_of, k_gap_of, bi_gap_of⟩⟩) (fun A hr => ⟨⟨3, _, _, _, G_plus, hr.mono (by decide), g_plus, k_plus, bi_plus⟩⟩) (fun A hr => ⟨⟨3, _, _, _, G_times, hr.mono (by decide), g_times, k_times, bi_times⟩⟩)
  have G_closest : FnOk l.prog w K mg base CX0 6 _ _ ["one", "other"] (spD K 2 (M2 m_closest)) := fn_closest F_closest c_NOTHING m_NOTHING (fun A hr => ⟨⟨2, _, _, _, G_fraction, hr.mono (by decide), g_fraction, k_fraction, bi_fraction⟩⟩) (fun A hr => ⟨⟨1, _, _, _, G_gap_of, hr.mono (by decide), g_gap_of, k_gap_of, bi_gap_of⟩⟩) (fun A hr => ⟨⟨1, _, _, _, G_is_less, hr.mono (by decide), g_is_less, k_is_less, bi_is_less⟩⟩) (fun A hr => ⟨⟨5, _, _, _, G_square_at, hr.mono (by decide), g_square_at, k_square_at, bi_square_at⟩⟩)
  have G_is_safe : FnOk l.prog w K mg base CX0 7 _ _ ["one", "other", "apart"] (spD K 3 (M3 m_is_safe)) := fn_is_safe F_is_safe (fun A hr => ⟨⟨6, _, _, _, G_closest, hr.mono (by decide), g_closest, k_closest, bi_closest⟩⟩) (fun A hr => ⟨⟨1, _, _, _, G_is_less, hr.mono (by decide), g_is_less, k_is_less, bi_is_less⟩⟩)
  have G_turned_right : FnOk l.prog w K mg base CX0 1 _ _ ["course"] (spD K 1 (M1 m_turned_right)) := fn_turned_right F_turned_right
  have G_first_safe : FnOk l.prog w K mg base CX0 8 _ _ ["one", "other", "apart"] (spD K 3 (M3 m_first_safe)) := fn_first_safe F_first_safe b_range (fun A hr => ⟨⟨7, _, _, _, G_is_safe, hr.mono (by decide), g_is_safe, k_is_safe, bi_is_safe⟩⟩) (fun A hr => ⟨⟨1, _, _, _, G_turned_right, hr.mono (by decide), g_turned_right, k_turned_right, bi_turned_right⟩⟩)
  have G_meet_spot : FnOk l.prog w K mg base CX0 7 _ _ ["one", "other"] (spD K 2 (M2 m_meet_spot)) := fn_meet_spot F_meet_spot c_NOTHING m_NOTHING (fun A hr => ⟨⟨4, _, _, _, G_at_hour, hr.mono (by decide), g_at_hour, k_at_hour, bi_at_hour⟩⟩) (fun A hr => ⟨⟨6, _, _, _, G_closest, hr.mono (by decide), g_closest, k_closest, bi_closest⟩⟩)
  have G__law_draws : FnOk l.prog w K mg base CX0 1 _ _ ["script", "many"] (spDr K m_draws) := fn_draws F__law_draws b_abs b_int b_len b_range
  have G__law_least : FnOk l.prog w K mg base CX0 1 _ _ ["a", "b"] (spD K 2 (M2 m__law_least)) := fn__law_least F__law_least b_abs
  have G__law_plus : FnOk l.prog w K mg base CX0 2 _ _ ["a", "b"] (spD K 2 (M2 m__law_plus)) := fn__law_plus F__law_plus (fun A hr => ⟨⟨1, _, _, _, G__law_least, hr.mono (by decide), g__law_least, k__law_least, bi__law_least⟩⟩)
  have G__law_times : FnOk l.prog w K mg base CX0 2 _ _ ["a", "b"] (spD K 2 (M2 m__law_times)) := fn__law_times F__law_times (fun A hr => ⟨⟨1, _, _, _, G__law_least, hr.mono (by decide), g__law_least, k__law_least, bi__law_least⟩⟩)
  have G__law_holds : FnOk l.prog w K mg base CX0 9 _ _ ["w"] (spH m_holds) := fn_holds F__law_holds b_range (fun A hr => ⟨⟨1, _, _, _, G__law_least, hr.mono (by decide), g__law_least, k__law_least, bi__law_least⟩⟩) (fun A hr => ⟨⟨2, _, _, _, G__law_plus, hr.mono (by decide), g__law_plus, k__law_plus, bi__law_plus⟩⟩) (fun A hr => ⟨⟨2, _, _, _, G__law_times, hr.mono (by decide), g__law_times, k__law_times, bi__law_times⟩⟩) (fun A hr => ⟨⟨4, _, _, _, G_at_hour, hr.mono (by decide), g_at_hour, k_at_hour, bi_at_hour⟩⟩) (fun A hr => ⟨⟨6, _, _, _, G_closest, hr.mono (by decide), g_closest, k_closest, bi_closest⟩⟩) (fun A hr => ⟨⟨8, _, _, _, G_first_safe, hr.mono (by decide), g_first_safe, k_first_safe, bi_first_safe⟩⟩) (fun A hr => ⟨⟨7, _, _, _, G_is_safe, hr.mono (by decide), g_is_safe, k_is_safe, bi_is_safe⟩⟩) (fun A hr => ⟨⟨7, _, _, _, G_meet_spot, hr.mono (by decide), g_meet_spot, k_meet_spot, bi_meet_spot⟩⟩) (fun A hr => ⟨⟨5, _, _, _, G_square_at, hr.mono (by decide), g_square_at, k_square_at, bi_square_at⟩⟩) (fun A hr => ⟨⟨1, _, _, _, G_turned_right, hr.mono (by decide), g_turned_right, k_turned_right, bi_turned_right⟩⟩) N_next
  exact fn_law F_law G__law_draws k__law_draws bi__law_draws g__law_draws G__law_holds k__law_holds bi__law_holds g__law_holds b_range Pd hm1 hm2
def Pd (ds : List Int) : Prop := ∀ x ∈ ds, 0 ≤ x ∧ x < 997
theorem pd_nil : Pd [] := fun x hx => nomatch hx
theorem pd_app {xs : List Int} {y : Int} (h : Pd xs) (h1 : 0 ≤ y) (h2 : y < 997) : Pd (xs ++ [y]) := by
  intro x hx
  rcases List.mem_append.mp hx with q | q
  · exact h x q
  · rw [List.mem_singleton.mp q]; exact ⟨h1, h2⟩
theorem hm1 (ns : List Int) (h : ns.length ≤ 63) : ∃ l, m_draws ns 200 = some l ∧ Pd l.l := by
  refine wp_opt (Q := fun (l : Ls Int) _ => Pd l.l) ?_
  unfold m_draws
  simp only [pure_bind, bind_assoc]
  refine wp_bind (wp_lift rngM_ok ?_)
  refine wp_bind (wp_fold (fun k (d : Int × Ls Int) _ => 0 ≤ d.1 ∧ d.1 < 65537 ∧ Pd d.2.l ∧ d.2.l.length ≤ 62 * k) _ 0 _ () ⟨by decide, by decide, pd_nil, by decide⟩ (fun k y d s hy hd => ?_) fun d s hd => ?_)
  · obtain ⟨hk, rfl⟩ := rngL_get hy
    obtain ⟨i1, i2, i3, i4⟩ := hd
    rcases hx : ns[k]? with _ | x
    · have := List.getElem?_eq_none_iff.mp hx; omega
    refine wp_bind (wp_lift (atI_ok (i := 0 + (k : Int)) (by omega) (by rw [show (0 + (k : Int)).toNat = k by omega]; exact hx)) ?_)
    have hc : 0 ≤ absI x := by unfold absI; split <;> omega
    generalize absI x = c at hc ⊢
    refine wp_bind (wp_lift mulM_ok ?_)
    refine wp_bind (wp_lift modM_ok ?_)
    refine wp_bind (wp_lift modM_ok ?_)
    have hm0 : 0 ≤ (d.1 * 48271 + c % 1000003 + (0 + (k : Int))) % 65537 := Int.emod_nonneg _ (by decide)
    have hm1 : (d.1 * 48271 + c % 1000003 + (0 + (k : Int))) % 65537 < 65537 := Int.emod_lt_of_pos _ (by decide)
    generalize (d.1 * 48271 + c % 1000003 + (0 + (k : Int))) % 65537 = mx at hm0 hm1 ⊢
    refine wp_bind (wp_lift (a := 10 ^ 18) (by decide +kernel) ?_)
    refine wp_seq (fun (r : Int × Ls Int) _ => 0 ≤ r.1 ∧ Pd r.2.l ∧ r.2.l.length ≤ 62 * k + 2) ?_ fun r s' hr => ?_
    · refine wp_ite (fun _ => wp_pure ⟨hc, i3, by show d.2.l.length ≤ _; omega⟩) fun _ => ?_
      refine wp_bind (wp_lift modM_ok ?_)
      refine wp_bind (wp_lift appM_ok ?_)
      refine wp_bind (wp_lift mulM_ok ?_)
      refine wp_bind (wp_lift modM_ok ?_)
      refine wp_bind (wp_lift modM_ok ?_)
      refine wp_bind (wp_lift (appM_ok (by simp; omega)) ?_)
      refine wp_pure ⟨Int.le_refl 0, pd_app (pd_app i3 (by omega) (by omega)) (by omega) (by omega), ?_⟩
      simp
      omega
    · obtain ⟨r1, r2, r3⟩ := hr
      refine wp_bind (wp_lift rngM_ok ?_)
      refine wp_bind (wp_fold (fun j (e : Ls Int × Int) _ => 0 ≤ e.2 ∧ Pd e.1.l ∧ e.1.l.length ≤ 62 * k + 2 + j) _ 0 _ s' ⟨r1, r2, by show r.2.l.length ≤ _; omega⟩ (fun j y e s hy he => ?_) fun e s he => ?_)
      · obtain ⟨hj, rfl⟩ := rngL_get hy
        obtain ⟨e1, e2, e3⟩ := he
        refine wp_seq (fun (e : Ls Int × Int) _ => 0 ≤ e.2 ∧ Pd e.1.l ∧ e.1.l.length ≤ 62 * k + 2 + (0 + j + 1)) ?_ fun r s' hr => wp_pure hr
        refine wp_ite (fun _ => ?_) fun _ => wp_pure ⟨e1, e2, by show e.1.l.length ≤ _; omega⟩
        refine wp_bind (wp_lift modM_ok ?_)
        refine wp_bind (wp_lift appM_ok ?_)
        refine wp_bind (wp_lift divM_ok ?_)
        refine wp_pure ⟨?_, pd_app e2 (by omega) (by omega), ?_⟩
        · show 0 ≤ e.2 / 997
          omega
        · simp
          omega
      · obtain ⟨e1, e2, e3⟩ := he
        refine wp_pure ⟨hm0, hm1, e2, ?_⟩
        rw [rngL_len] at e3
        show e.1.l.length ≤ _
        omega
  · obtain ⟨i1, i2, i3, i4⟩ := hd
    rw [rngL_len] at i4
    refine wp_bind (wp_lift rngM_ok ?_)
    refine wp_bind (wp_fold (fun j (e : Int × Ls Int) _ => 0 ≤ e.1 ∧ e.1 < 65537 ∧ Pd e.2.l ∧ e.2.l.length ≤ 62 * 63 + j) _ 0 _ s ⟨i1, i2, i3, by show d.2.l.length ≤ _; omega⟩ (fun j y e s hy he => ?_) fun e s he => ?_)
    · obtain ⟨hj, rfl⟩ := rngL_get hy
      obtain ⟨e1, e2, e3, e4⟩ := he
      refine wp_bind (wp_lift mulM_ok ?_)
      refine wp_bind (wp_lift modM_ok ?_)
      refine wp_bind (wp_lift modM_ok ?_)
      refine wp_bind (wp_lift appM_ok ?_)
      refine wp_pure ⟨Int.emod_nonneg _ (by decide), Int.emod_lt_of_pos _ (by decide), pd_app e3 (by omega) (by omega), ?_⟩
      simp
      omega
    · refine wp_pure ?_
      intro x hx
      exact he.2.2.1 x (List.mem_of_mem_drop (List.mem_of_mem_take hx))
def toP (r : Rat) : Int × Int := (r.num, (r.den : Int))
theorem gcd_step (a b : Int) : Int.gcd b (a % b) = Int.gcd a b := by
  rw [Int.emod_def, Int.gcd_sub_mul_left_right, Int.gcd_comm]
theorem abs_gcd (a : Int) : absI a = (Int.gcd a 0 : Int) := by
  rw [Int.gcd_zero_right]; unfold absI; split <;> omega
theorem common_ok (a b : Int) (h : 0 ≤ b) (h2 : b < 1000000000) : m_common a b = some (Int.gcd a b : Int) := by
  have : wp (m_common a b) () (fun r _ => r = (Int.gcd a b : Int)) := by
    unfold m_common
    simp only [pure_bind, bind_assoc]
    refine wp_bind (wp_while (fun (d : Int × Int) _ => 0 ≤ d.2 ∧ Int.gcd d.1 d.2 = Int.gcd a b) (fun d => d.2.toNat) (fun d s hd => ?_) fuel (a, b) () (by show b.toNat < 1000000000000000000000000000000; omega) ⟨h, rfl⟩)
    refine wp_lift (a := !decide (d.2 = 0)) rfl ?_
    by_cases h0 : d.2 = 0
    · rw [if_neg (by simp [h0])]
      refine wp_pure ?_
      rw [← hd.2, h0]
      exact abs_gcd _
    · rw [if_pos (by simp [h0])]
      refine wp_bind (wp_lift modM_ok (wp_pure ⟨⟨Int.emod_nonneg _ h0, ?_⟩, ?_⟩))
      · rw [← hd.2]; exact gcd_step _ _
      · have h1 := Int.emod_nonneg d.1 h0
        have h2 := Int.emod_lt_of_pos d.1 (b := d.2) (by omega)
        show (d.1 % d.2).toNat < d.2.toNat
        omega
  obtain ⟨r, hr, e⟩ := wp_opt this
  rw [hr, e]
theorem gcd_bd {a b : Int} (h : 0 < b) : 0 < (Int.gcd a b : Int) ∧ (Int.gcd a b : Int) ≤ b := by
  have h1 : Int.gcd a b ≠ 0 := by
    intro e
    have := (Int.gcd_eq_zero_iff.mp e).2
    omega
  have h2 := Int.le_of_dvd h (Int.gcd_dvd_right a b)
  omega
theorem num_ok {a b : Int} (h : 0 < b) : (Rat.divInt a b).num = a / (Int.gcd a b : Int) := by
  rw [Rat.num_divInt, Int.sign_eq_one_of_pos h, Int.one_mul, Int.gcd_comm]
theorem den_ok {a b : Int} (h : 0 < b) : ((Rat.divInt a b).den : Int) = b / (Int.gcd a b : Int) := by
  rw [Rat.den_divInt, if_neg (by omega), Int.gcd_comm, Int.natCast_ediv, Int.natAbs_of_nonneg (by omega)]
theorem fraction_ok (a b : Int) (h : 0 < b) (h2 : b < 1000000000) : m_fraction a b = some (toP (Rat.divInt a b)) := by
  have hg := gcd_bd (a := a) h
  refine wp_eq ?_
  unfold m_fraction
  simp only [pure_bind, bind_assoc]
  refine wp_bind (wp_lift (common_ok a b (by omega) h2) ?_)
  rw [if_neg (by simp; omega)]
  refine wp_bind (wp_pure ?_)
  refine wp_bind (wp_lift divM_ok ?_)
  refine wp_bind (wp_lift divM_ok ?_)
  refine wp_pure ?_
  unfold toP
  rw [num_ok h, den_ok h]
theorem absI_abs (a : Int) : absI a = (a.natAbs : Int) := by unfold absI; split <;> omega
theorem least_ok (a b : Int) (h : 0 < b) (h2 : b < 1000000000) : m__law_least a b = some (toP (Rat.divInt a b)) := by
  have hg := gcd_bd (a := a) h
  refine wp_eq ?_
  unfold m__law_least
  simp only [pure_bind, bind_assoc]
  refine wp_bind (wp_while (fun (d : Int × Int) _ => 0 ≤ d.1 ∧ 0 ≤ d.2 ∧ Int.gcd d.1 d.2 = Int.gcd a b) (fun d => d.2.toNat) (fun d s hd => ?_) fuel _ () ?_ ⟨?_, ?_, ?_⟩)
  · refine wp_pure ?_
    by_cases h0 : 0 < d.2
    · rw [if_pos (by simp [h0])]
      refine wp_bind (wp_lift modM_ok (wp_pure ⟨⟨hd.2.1, Int.emod_nonneg _ (by omega), ?_⟩, ?_⟩))
      · rw [← hd.2.2]; exact gcd_step _ _
      · have h1 := Int.emod_nonneg d.1 (show d.2 ≠ 0 by omega)
        have h2 := Int.emod_lt_of_pos d.1 (b := d.2) (by omega)
        show (d.1 % d.2).toNat < d.2.toNat
        omega
    · rw [if_neg (by simp; omega)]
      have e : d.1 = (Int.gcd a b : Int) := by
        rw [← hd.2.2, show d.2 = 0 by omega, ← abs_gcd, absI_abs]; omega
      rw [if_pos (by simpa using h)]
      refine wp_bind (wp_pure ?_)
      rw [e]
      refine wp_bind (wp_lift divM_ok ?_)
      refine wp_bind (wp_lift divM_ok ?_)
      refine wp_pure ?_
      unfold toP
      rw [num_ok h, den_ok h]
  · rw [absI_abs b]
    show ((b.natAbs : Int)).toNat < 1000000000000000000000000000000
    omega
  · rw [absI_abs]; show 0 ≤ (a.natAbs : Int); omega
  · rw [absI_abs b]; show 0 ≤ (b.natAbs : Int); omega
  · rw [absI_abs, absI_abs]; show Int.gcd (a.natAbs : Int) (b.natAbs : Int) = _; rw [Int.gcd_eq_natAbs_gcd_natAbs, Int.gcd_eq_natAbs_gcd_natAbs a b]; simp
def Bd (n d : Nat) (r : Rat) : Prop := r.num.natAbs ≤ n ∧ r.den ≤ d
theorem bd_div {a b : Int} {n d : Nat} (h : 0 < b) (h1 : a.natAbs ≤ n) (h2 : b ≤ d) : Bd n d (Rat.divInt a b) := by
  have hg := gcd_bd (a := a) h
  refine ⟨?_, ?_⟩
  · rw [num_ok h]
    have := Int.natAbs_ediv_le_natAbs a (Int.gcd a b : Int)
    omega
  · have h3 := den_ok (a := a) h
    have h4 := Int.ediv_le_self (a := b) (Int.gcd a b : Int) (by omega)
    omega
theorem add_div (r s : Rat) : r + s = Rat.divInt (r.num * s.den + s.num * r.den) (r.den * s.den) := by
  rw [Rat.add_def', ← Rat.divInt_ofNat]; rfl
theorem mul_div (r s : Rat) : r * s = Rat.divInt (r.num * s.num) (r.den * s.den) := by
  rw [Rat.mul_def', ← Rat.divInt_ofNat]; rfl
theorem den_pos (r s : Rat) : 0 < (r.den : Int) * s.den := by
  have h1 := r.den_pos
  have h2 := s.den_pos
  exact Int.mul_pos (by omega) (by omega)
theorem bd_add {r s : Rat} {n d n' d' : Nat} (h : Bd n d r) (k : Bd n' d' s) : Bd (n * d' + n' * d) (d * d') (r + s) := by
  rw [add_div]
  refine bd_div (den_pos r s) ?_ (by exact_mod_cast Nat.mul_le_mul h.2 k.2)
  refine Nat.le_trans (Int.natAbs_add_le _ _) (Nat.add_le_add ?_ ?_)
  · rw [Int.natAbs_mul]; exact Nat.mul_le_mul h.1 k.2
  · rw [Int.natAbs_mul]; exact Nat.mul_le_mul k.1 h.2
theorem bd_mul {r s : Rat} {n d n' d' : Nat} (h : Bd n d r) (k : Bd n' d' s) : Bd (n * n') (d * d') (r * s) := by
  rw [mul_div]
  refine bd_div (den_pos r s) ?_ (by exact_mod_cast Nat.mul_le_mul h.2 k.2)
  rw [Int.natAbs_mul]; exact Nat.mul_le_mul h.1 k.1
theorem Bd.le {r : Rat} {n d n' d' : Nat} (h : Bd n d r) (h1 : n ≤ n') (h2 : d ≤ d') : Bd n' d' r := ⟨Nat.le_trans h.1 h1, Nat.le_trans h.2 h2⟩
theorem dd_lt {r s : Rat} {n d n' d' : Nat} (h : Bd n d r) (k : Bd n' d' s) (l : d * d' < 1000000000) : (r.den : Int) * s.den < 1000000000 := by
  have := Nat.mul_le_mul h.2 k.2
  have h3 := Nat.lt_of_le_of_lt this l
  rw [← Int.natCast_mul]
  omega
theorem plus_ok {r s : Rat} {n d n' d' : Nat} (h : Bd n d r) (k : Bd n' d' s) (l : d * d' < 1000000000 := by decide) (h1 : n < 2 ^ 200 := by decide) (k1 : n' < 2 ^ 200 := by decide) (h2 : d < 2 ^ 200 := by decide) (k2 : d' < 2 ^ 200 := by decide) : m_plus (toP r) (toP s) = some (toP (r + s)) := by
  obtain ⟨a1, a2⟩ := h
  obtain ⟨b1, b2⟩ := k
  refine wp_eq ?_
  unfold m_plus toP
  simp only [bind_assoc]
  simp only [pure_bind]
  refine wp_bind (wp_lift mulM_ok ?_)
  refine wp_bind (wp_lift mulM_ok ?_)
  refine wp_bind (wp_lift mulM_ok ?_)
  refine wp_lift (fraction_ok _ _ (den_pos r s) (dd_lt ⟨a1, a2⟩ ⟨b1, b2⟩ l)) ?_
  rw [add_div]; rfl
theorem times_ok {r s : Rat} {n d n' d' : Nat} (h : Bd n d r) (k : Bd n' d' s) (l : d * d' < 1000000000 := by decide) (h1 : n < 2 ^ 200 := by decide) (k1 : n' < 2 ^ 200 := by decide) (h2 : d < 2 ^ 200 := by decide) (k2 : d' < 2 ^ 200 := by decide) : m_times (toP r) (toP s) = some (toP (r * s)) := by
  obtain ⟨a1, a2⟩ := h
  obtain ⟨b1, b2⟩ := k
  refine wp_eq ?_
  unfold m_times toP
  simp only [bind_assoc]
  simp only [pure_bind]
  refine wp_bind (wp_lift mulM_ok ?_)
  refine wp_bind (wp_lift mulM_ok ?_)
  refine wp_lift (fraction_ok _ _ (den_pos r s) (dd_lt ⟨a1, a2⟩ ⟨b1, b2⟩ l)) ?_
  rw [mul_div]; rfl
theorem lplus_ok {r s : Rat} {n d n' d' : Nat} (h : Bd n d r) (k : Bd n' d' s) (l : d * d' < 1000000000 := by decide) (h1 : n < 2 ^ 200 := by decide) (k1 : n' < 2 ^ 200 := by decide) (h2 : d < 2 ^ 200 := by decide) (k2 : d' < 2 ^ 200 := by decide) : m__law_plus (toP r) (toP s) = some (toP (r + s)) := by
  obtain ⟨a1, a2⟩ := h
  obtain ⟨b1, b2⟩ := k
  refine wp_eq ?_
  unfold m__law_plus toP
  simp only [bind_assoc]
  simp only [pure_bind]
  refine wp_bind (wp_lift mulM_ok ?_)
  refine wp_bind (wp_lift mulM_ok ?_)
  refine wp_bind (wp_lift mulM_ok ?_)
  refine wp_lift (least_ok _ _ (den_pos r s) (dd_lt ⟨a1, a2⟩ ⟨b1, b2⟩ l)) ?_
  rw [add_div]; rfl
theorem ltimes_ok {r s : Rat} {n d n' d' : Nat} (h : Bd n d r) (k : Bd n' d' s) (l : d * d' < 1000000000 := by decide) (h1 : n < 2 ^ 200 := by decide) (k1 : n' < 2 ^ 200 := by decide) (h2 : d < 2 ^ 200 := by decide) (k2 : d' < 2 ^ 200 := by decide) : m__law_times (toP r) (toP s) = some (toP (r * s)) := by
  obtain ⟨a1, a2⟩ := h
  obtain ⟨b1, b2⟩ := k
  refine wp_eq ?_
  unfold m__law_times toP
  simp only [bind_assoc]
  simp only [pure_bind]
  refine wp_bind (wp_lift mulM_ok ?_)
  refine wp_bind (wp_lift mulM_ok ?_)
  refine wp_lift (least_ok _ _ (den_pos r s) (dd_lt ⟨a1, a2⟩ ⟨b1, b2⟩ l)) ?_
  rw [mul_div]; rfl
theorem less_ok {r s : Rat} {n d n' d' : Nat} (h : Bd n d r) (k : Bd n' d' s) (h1 : n < 2 ^ 200 := by decide) (k1 : n' < 2 ^ 200 := by decide) (h2 : d < 2 ^ 200 := by decide) (k2 : d' < 2 ^ 200 := by decide) : m_is_less (toP r) (toP s) = some (decide (r < s)) := by
  obtain ⟨a1, a2⟩ := h
  obtain ⟨b1, b2⟩ := k
  refine wp_eq ?_
  unfold m_is_less toP
  simp only [bind_assoc]
  simp only [pure_bind]
  refine wp_bind (wp_lift mulM_ok ?_)
  refine wp_bind (wp_lift mulM_ok ?_)
  refine wp_pure ?_
  simp [Rat.lt_iff]
theorem int_P (n : Int) : ((n, 1) : Int × Int) = toP (n : Rat) := rfl
theorem bd_int {n : Int} {k : Nat} (h : n.natAbs ≤ k) : Bd k 1 (n : Rat) := ⟨h, Nat.le_refl 1⟩
theorem at_ok {x y dx dy : Int} {t : Rat} {n d : Nat} (h1 : x.natAbs ≤ 40) (h2 : y.natAbs ≤ 40) (h3 : dx.natAbs ≤ 40) (h4 : dy.natAbs ≤ 40) (ht : Bd n d t) (hn : n ≤ 1000000 := by decide) (hd : d ≤ 100 := by decide) :
    m_at_hour [x, y, dx, dy] (toP t) = some (toP ((x : Rat) + t * (dx : Rat)), toP ((y : Rat) + t * (dy : Rat))) := by
  have ht := ht.le hn hd
  refine wp_eq ?_
  unfold m_at_hour
  simp only [pure_bind, bind_assoc]
  refine wp_bind (wp_lift (a := ⟨x, y, dx, dy⟩) rfl ?_)
  simp only [int_P]
  refine wp_bind (wp_lift (times_ok ht (bd_int h3)) ?_)
  refine wp_bind (wp_lift (plus_ok (bd_int h1) (bd_mul ht (bd_int h3))) ?_)
  refine wp_bind (wp_lift (times_ok ht (bd_int h4)) ?_)
  refine wp_bind (wp_lift (plus_ok (bd_int h2) (bd_mul ht (bd_int h4))) ?_)
  exact wp_pure rfl
theorem gap_ok (a b c d a' b' c' d' : Int) : m_gap_of [a, b, c, d] [a', b', c', d'] = some [a' - a, b' - b, c' - c, d' - d] := rfl
def sq (x y dx dy : Int) (t : Rat) : Rat := ((x : Rat) + t * (dx : Rat)) * ((x : Rat) + t * (dx : Rat)) + ((y : Rat) + t * (dy : Rat)) * ((y : Rat) + t * (dy : Rat))
theorem sq_bd {x y dx dy : Int} {t : Rat} (h1 : x.natAbs ≤ 40) (h2 : y.natAbs ≤ 40) (h3 : dx.natAbs ≤ 40) (h4 : dy.natAbs ≤ 40) (ht : Bd 1000000 100 t) : Bd (10 ^ 30) (100 * 100 * (100 * 100)) (sq x y dx dy t) := by
  have b1 := bd_add (bd_int h1) (bd_mul ht (bd_int h3))
  have b2 := bd_add (bd_int h2) (bd_mul ht (bd_int h4))
  exact (bd_add (bd_mul b1 b1) (bd_mul b2 b2)).le (by decide) (by decide)
theorem square_ok {a b c d a' b' c' d' : Int} {t : Rat} (h1 : (a' - a).natAbs ≤ 40) (h2 : (b' - b).natAbs ≤ 40) (h3 : (c' - c).natAbs ≤ 40) (h4 : (d' - d).natAbs ≤ 40) (ht : Bd 1000000 100 t) :
    m_square_at [a, b, c, d] [a', b', c', d'] (toP t) = some (toP (sq (a' - a) (b' - b) (c' - c) (d' - d) t)) := by
  refine wp_eq ?_
  unfold m_square_at
  simp only [pure_bind, bind_assoc]
  refine wp_bind (wp_lift (gap_ok ..) ?_)
  refine wp_bind (wp_lift (at_ok h1 h2 h3 h4 ht) ?_)
  have b1 := bd_add (bd_int h1) (bd_mul ht (bd_int h3))
  have b2 := bd_add (bd_int h2) (bd_mul ht (bd_int h4))
  refine wp_bind (wp_lift (times_ok b1 b1) ?_)
  refine wp_bind (wp_lift (times_ok b2 b2) ?_)
  refine wp_lift (plus_ok (bd_mul b1 b1) (bd_mul b2 b2)) rfl
def tm (x y dx dy : Int) : Rat := if 0 < dx * dx + dy * dy ∧ x * dx + y * dy < 0 then Rat.divInt (-(x * dx + y * dy)) (dx * dx + dy * dy) else 0
theorem div_pos_iff {a b : Int} (h : 0 < b) : 0 < Rat.divInt a b ↔ 0 < a := by
  rw [Rat.divInt_eq_div, Rat.lt_div_iff (by exact_mod_cast h), Rat.zero_mul]
  exact_mod_cast Iff.rfl
theorem mul_ab {x y : Int} {m n : Nat} (h : x.natAbs ≤ m) (k : y.natAbs ≤ n) : (x * y).natAbs ≤ m * n := by
  rw [Int.natAbs_mul]; exact Nat.mul_le_mul h k
theorem sq_nn (x : Int) : 0 ≤ x * x := by
  rcases Int.le_total 0 x with h | h
  · exact Int.mul_nonneg h h
  · have := Int.mul_nonneg (a := -x) (b := -x) (by omega) (by omega)
    rwa [Int.neg_mul_neg] at this
theorem tm_bd {x y dx dy : Int} (h1 : x.natAbs ≤ 19) (h2 : y.natAbs ≤ 19) (h3 : dx.natAbs ≤ 6) (h4 : dy.natAbs ≤ 6) : Bd 1000000 100 (tm x y dx dy) := by
  have k1 := mul_ab h1 h3
  have k2 := mul_ab h2 h4
  have k3 := mul_ab h3 h3
  have k4 := mul_ab h4 h4
  unfold tm
  split
  · rename_i h
    exact bd_div h.1 (by omega) (by omega)
  · exact ⟨by decide, by decide⟩
theorem closest_ok {a b c d a' b' c' d' x y dx dy : Int} (ex : a' - a = x) (ey : b' - b = y) (edx : c' - c = dx) (edy : d' - d = dy) (h1 : x.natAbs ≤ 19) (h2 : y.natAbs ≤ 19) (h3 : dx.natAbs ≤ 6) (h4 : dy.natAbs ≤ 6) :
    m_closest [a, b, c, d] [a', b', c', d'] = some (toP (tm x y dx dy), toP (sq x y dx dy (tm x y dx dy))) := by
  have k1 := mul_ab h1 h3
  have k2 := mul_ab h2 h4
  have k3 := mul_ab h3 h3
  have k4 := mul_ab h4 h4
  have htm := tm_bd h1 h2 h3 h4
  refine wp_eq ?_
  unfold m_closest
  simp only [pure_bind, bind_assoc]
  refine wp_bind (wp_lift (gap_ok ..) ?_)
  refine wp_bind (wp_lift (a := ⟨x, y, dx, dy⟩) (by rw [ex, ey, edx, edy]; rfl) ?_)
  dsimp only
  refine wp_bind (wp_lift mulM_ok ?_)
  refine wp_bind (wp_lift mulM_ok ?_)
  refine wp_seq (fun r _ => r = toP (if 0 < dx * dx + dy * dy then Rat.divInt (-(x * dx + y * dy)) (dx * dx + dy * dy) else 0)) ?_ ?_
  · refine wp_ite (fun h => ?_) fun h => wp_pure ?_
    · have h : 0 < dx * dx + dy * dy := of_decide_eq_true h
      rw [if_pos h]
      refine wp_bind (wp_lift mulM_ok ?_)
      refine wp_bind (wp_lift mulM_ok ?_)
      exact wp_lift (fraction_ok _ _ h (by show dx * dx + dy * dy < _; omega)) rfl
    · have h : ¬ 0 < dx * dx + dy * dy := fun e => h (decide_eq_true e)
      rw [if_neg h]; rfl
  · rintro r s rfl
    have hb : Bd 1000000 100 (if 0 < dx * dx + dy * dy then Rat.divInt (-(x * dx + y * dy)) (dx * dx + dy * dy) else 0) := by
      split
      · rename_i h
        exact bd_div h (by omega) (by omega)
      · exact ⟨by decide, by decide⟩
    rw [show ((0, 1) : Int × Int) = toP 0 from rfl]
    refine wp_bind (wp_lift (less_ok (n := 0) (d := 1) ⟨by decide, by decide⟩ hb) ?_)
    refine wp_seq (fun r _ => r = toP (tm x y dx dy)) ?_ ?_
    · refine wp_ite (fun h => wp_pure ?_) fun h => wp_pure ?_
      · have h := of_decide_eq_true h
        split at h
        · rename_i h0
          rw [div_pos_iff h0] at h
          unfold tm
          rw [if_pos h0, if_pos ⟨h0, by omega⟩]
        · exact absurd h (by decide)
      · have h := fun e => h (decide_eq_true e)
        unfold tm
        split at h
        · rename_i h0
          rw [div_pos_iff h0] at h
          rw [if_neg (fun q => h (by omega))]
        · rename_i h0
          rw [if_neg (fun q => h0 q.1)]
    · rintro r s rfl
      refine wp_bind (wp_lift (square_ok (by rw [ex]; omega) (by rw [ey]; omega) (by rw [edx]; omega) (by rw [edy]; omega) htm) ?_)
      refine wp_pure ?_
      rw [ex, ey, edx, edy]
theorem tm_neg (x y dx dy : Int) : tm (-x) (-y) (-dx) (-dy) = tm x y dx dy := by
  unfold tm; simp only [Int.neg_mul_neg]
theorem sq_neg (x y dx dy : Int) (t : Rat) : sq (-x) (-y) (-dx) (-dy) t = sq x y dx dy t := by
  unfold sq; simp only [Rat.intCast_neg]; grind
theorem sq_eq {x y dx dy : Int} (h : 0 < dx * dx + dy * dy) (k : x * dx + y * dy < 0) : sq x y dx dy (tm x y dx dy) = Rat.divInt ((x * dy - y * dx) * (x * dy - y * dx)) (dx * dx + dy * dy) := by
  unfold tm
  rw [if_pos ⟨h, k⟩]
  unfold sq
  rw [Rat.divInt_eq_div, Rat.divInt_eq_div]
  have h0 : ((dx * dx + dy * dy : Int) : Rat) ≠ 0 := by
    intro e
    have : (dx * dx + dy * dy : Int) = 0 := by exact_mod_cast e
    omega
  simp only [Rat.intCast_neg, Rat.intCast_add, Rat.intCast_mul, Rat.intCast_sub] at h0 ⊢
  grind
theorem first_ok {a b c d a' b' c' d' x y dx dy : Int} (ex : a' - a = x) (ey : b' - b = y) (edx : c' - c = dx) (edy : d' - d = dy) (h1 : x.natAbs ≤ 19) (h2 : y.natAbs ≤ 19) (h3 : dx.natAbs ≤ 6) (h4 : dy.natAbs ≤ 6) {n : Int} (hn : n.natAbs ≤ 1000) :
    m_is_safe [a, b, c, d] [a', b', c', d'] n = some (!decide (sq x y dx dy (tm x y dx dy) < (n : Rat))) := by
  refine wp_eq ?_
  unfold m_is_safe
  simp only [pure_bind, bind_assoc]
  refine wp_bind (wp_lift (closest_ok ex ey edx edy h1 h2 h3 h4) ?_)
  simp only [int_P]
  refine wp_bind (wp_lift (less_ok (sq_bd (by omega) (by omega) (by omega) (by omega) (tm_bd h1 h2 h3 h4)) (bd_int hn)) ?_)
  exact wp_pure rfl
theorem sqr_nn (a : Rat) : 0 ≤ a * a := by
  rcases @Rat.le_total 0 a with h | h
  · exact Rat.mul_nonneg h h
  · have := Rat.mul_nonneg (a := -a) (b := -a) (by grind) (by grind)
    grind
theorem sq_nonneg (x y dx dy : Int) (t : Rat) : 0 ≤ sq x y dx dy t := by
  unfold sq
  exact Rat.add_nonneg (sqr_nn _) (sqr_nn _)
theorem first_safe_ok {a b c d a' b' c' d' x y dx dy : Int} (ex : a' - a = x) (ey : b' - b = y) (edx : c' - c = dx) (edy : d' - d = dy) (h1 : x.natAbs ≤ 19) (h2 : y.natAbs ≤ 19) (h3 : dx.natAbs ≤ 6) (h4 : dy.natAbs ≤ 6) :
    m_first_safe [a, b, c, d] [a', b', c', d'] 0 = some (some 0) := by
  refine wp_eq ?_
  unfold m_first_safe
  simp only [pure_bind, bind_assoc]
  refine wp_bind (wp_lift (a := [0, 1, 2, 3]) (by decide +kernel) ?_)
  unfold foldF
  simp only [pure_bind, bind_assoc]
  refine wp_bind (wp_lift (first_ok ex ey edx edy h1 h2 h3 h4 (by decide)) ?_)
  have hn : (!decide (sq x y dx dy (tm x y dx dy) < ((0 : Int) : Rat))) = true := by
    have := sq_nonneg x y dx dy (tm x y dx dy)
    have h : ¬ (sq x y dx dy (tm x y dx dy) < ((0 : Int) : Rat)) := Rat.not_lt.mpr this
    rw [decide_eq_false h]; rfl
  rw [if_pos hn]
  exact wp_pure rfl
theorem toP_zero {r : Rat} : decide (toP r = ((0, 1) : Int × Int)) = decide (r = 0) := by
  refine decide_eq_decide.mpr ⟨fun h => ?_, fun h => by rw [h]; rfl⟩
  exact Rat.num_eq_zero.mp (congrArg Prod.fst h)
theorem meet_ok {a b c d a' b' c' d' x y dx dy : Int} (ex : a' - a = x) (ey : b' - b = y) (edx : c' - c = dx) (edy : d' - d = dy) (h1 : x.natAbs ≤ 19) (h2 : y.natAbs ≤ 19) (h3 : dx.natAbs ≤ 6) (h4 : dy.natAbs ≤ 6) (p1 : a.natAbs ≤ 40) (p2 : b.natAbs ≤ 40) (p3 : c.natAbs ≤ 40) (p4 : d.natAbs ≤ 40) :
    ∃ r, m_meet_spot [a, b, c, d] [a', b', c', d'] = some r ∧ r.isSome = decide (sq x y dx dy (tm x y dx dy) = 0) := by
  have : wp (m_meet_spot [a, b, c, d] [a', b', c', d']) () (fun r _ => r.isSome = decide (sq x y dx dy (tm x y dx dy) = 0)) := by
    unfold m_meet_spot
    simp only [pure_bind, bind_assoc]
    refine wp_bind (wp_lift (closest_ok ex ey edx edy h1 h2 h3 h4) ?_)
    refine wp_bind (wp_lift (a := decide (sq x y dx dy (tm x y dx dy) = 0)) ?_ ?_)
    · unfold eqM; rw [if_pos ⟨rfl, rfl⟩, toP_zero]
    refine wp_ite (fun h => ?_) fun h => wp_pure ?_
    · refine wp_bind (wp_lift (at_ok p1 p2 p3 p4 (tm_bd h1 h2 h3 h4)) ?_)
      refine wp_pure ?_
      rw [h]; rfl
    · simpa using h
  obtain ⟨r, e, q⟩ := wp_opt this
  exact ⟨r, e, q⟩
theorem hm2 (ds : List Int) (h : Pd ds) (n : Int) (h0 : 0 ≤ n) : ∃ n', m_holds ds n = some (true, n') := by
  have : wp (m_holds ds) n (fun r n' => r = true ∧ 0 ≤ n') := by
    unfold m_holds
    simp only [pure_bind, bind_assoc]
    refine wp_bind (wp_nxt (by decide) h0 fun a n1 h1 a0 a1 => ?_)
    refine wp_bind (wp_nxt (by decide) h1 fun b n2 h2 b0 b1 => ?_)
    refine wp_bind (wp_nxt (by decide) h2 fun c n3 h3 c0 c1 => ?_)
    refine wp_bind (wp_nxt (by decide) h3 fun d n4 h4 d0 d1 => ?_)
    refine wp_bind (wp_nxt (by decide) h4 fun a' n5 h5 a0' a1' => ?_)
    refine wp_bind (wp_nxt (by decide) h5 fun b' n6 h6 b0' b1' => ?_)
    refine wp_bind (wp_nxt (by decide) h6 fun c' n7 h7 c0' c1' => ?_)
    refine wp_bind (wp_nxt (by decide) h7 fun d' n8 h8 d0' d1' => ?_)
    refine wp_bind (wp_lift (a := a') rfl ?_)
    refine wp_bind (wp_lift (a := a) rfl ?_)
    refine wp_bind (wp_lift (a := b') rfl ?_)
    refine wp_bind (wp_lift (a := b) rfl ?_)
    refine wp_bind (wp_lift (a := c' - 3) rfl ?_)
    refine wp_bind (wp_lift (a := c - 3) rfl ?_)
    refine wp_bind (wp_lift (a := d' - 3) rfl ?_)
    refine wp_bind (wp_lift (a := d - 3) rfl ?_)
    obtain ⟨x, ex⟩ : ∃ x, a' - a = x := ⟨_, rfl⟩
    obtain ⟨y, ey⟩ : ∃ x, b' - b = x := ⟨_, rfl⟩
    obtain ⟨dx, edx⟩ : ∃ x, c' - 3 - (c - 3) = x := ⟨_, rfl⟩
    obtain ⟨dy, edy⟩ : ∃ x, d' - 3 - (d - 3) = x := ⟨_, rfl⟩
    obtain ⟨p, ep⟩ : ∃ x, c - 3 = x := ⟨_, rfl⟩
    obtain ⟨q, eq⟩ : ∃ x, d - 3 = x := ⟨_, rfl⟩
    obtain ⟨p', ep'⟩ : ∃ x, c' - 3 = x := ⟨_, rfl⟩
    obtain ⟨q', eq'⟩ : ∃ x, d' - 3 = x := ⟨_, rfl⟩
    rw [ep, ep'] at edx
    rw [eq, eq'] at edy
    rw [ep, ep', eq, eq', ex, ey, edx, edy]
    have g1 : x.natAbs ≤ 19 := by omega
    have g2 : y.natAbs ≤ 19 := by omega
    have g3 : dx.natAbs ≤ 6 := by omega
    have g4 : dy.natAbs ≤ 6 := by omega
    have k1 := mul_ab g1 g3
    have k2 := mul_ab g2 g4
    have k3 := mul_ab g3 g3
    have k4 := mul_ab g4 g4
    have k5 := mul_ab g1 g1
    have k6 := mul_ab g2 g2
    have k7 := mul_ab g1 g4
    have k8 := mul_ab g2 g3
    have htm := tm_bd g1 g2 g3 g4
    have hsq := sq_bd (x := x) (y := y) (dx := dx) (dy := dy) (by omega) (by omega) (by omega) (by omega) htm
    refine wp_bind (wp_lift mulM_ok ?_)
    refine wp_bind (wp_lift mulM_ok ?_)
    refine wp_bind (wp_lift mulM_ok ?_)
    refine wp_bind (wp_lift mulM_ok ?_)
    refine wp_bind (wp_lift (a := decide (dx * dx + dy * dy = 0)) rfl ?_)
    have s1 := sq_nn dx
    have s2 := sq_nn dy
    refine wp_seq (fun r s => r = decide (dx * dx + dy * dy = 0 ∨ 0 ≤ x * dx + y * dy) ∧ s = n8) ?_ ?_
    · refine wp_ite (fun h => wp_pure ?_) fun h => wp_pure ?_
      · simp only [decide_eq_true_eq] at h; simp [h]
      · simp only [decide_eq_true_eq] at h; simp [h]
    rintro _ n8 ⟨rfl, rfl⟩
    refine wp_seq (fun r s => r = (toP (tm x y dx dy), toP (sq x y dx dy (tm x y dx dy))) ∧ s = n8) ?_ ?_
    · refine wp_ite (fun h => ?_) fun h => ?_
      · have h := of_decide_eq_true h
        refine wp_bind (wp_lift mulM_ok ?_)
        refine wp_bind (wp_lift mulM_ok ?_)
        refine wp_pure ⟨?_, rfl⟩
        have e : tm x y dx dy = 0 := by unfold tm; rw [if_neg (by omega)]
        rw [e]
        have e2 : sq x y dx dy 0 = ((x * x + y * y : Int) : Rat) := by
          unfold sq; simp only [Rat.intCast_add, Rat.intCast_mul]; grind
        rw [e2]; rfl
      · have h : ¬ (dx * dx + dy * dy = 0 ∨ 0 ≤ x * dx + y * dy) := fun e => h (decide_eq_true e)
        have hs : 0 < dx * dx + dy * dy := by omega
        refine wp_bind (wp_lift (least_ok _ _ hs (by omega)) ?_)
        refine wp_bind (wp_lift mulM_ok ?_)
        refine wp_bind (wp_lift mulM_ok ?_)
        refine wp_bind (wp_lift mulM_ok ?_)
        refine wp_bind (wp_lift mulM_ok ?_)
        refine wp_bind (wp_lift mulM_ok ?_)
        refine wp_bind (wp_lift (least_ok _ _ hs (by omega)) ?_)
        refine wp_pure ⟨?_, rfl⟩
        rw [sq_eq hs (by omega)]
        unfold tm
        rw [if_pos ⟨hs, by omega⟩, Int.zero_sub]
    rintro _ n8 ⟨rfl, rfl⟩
    refine wp_bind (wp_lift (closest_ok ex ey edx edy g1 g2 g3 g4) ?_)
    refine wp_bind (wp_lift (a := false) (by unfold neM; rw [if_pos ⟨rfl, rfl⟩]; simp) ?_)
    refine wp_seq (fun r s => r = false ∧ s = n8) ?_ ?_
    · rw [if_neg (by decide)]
      refine wp_bind (wp_lift (square_ok (by omega) (by omega) (by omega) (by omega) htm) ?_)
      refine wp_bind (wp_lift (a := false) (by rw [ex, ey, edx, edy]; unfold neM; rw [if_pos ⟨rfl, rfl⟩]; simp) ?_)
      rw [if_neg (by decide)]
      refine wp_bind (wp_lift (closest_ok (x := -x) (y := -y) (dx := -dx) (dy := -dy) (by omega) (by omega) (by omega) (by omega) (by omega) (by omega) (by omega) (by omega)) ?_)
      rw [tm_neg, sq_neg]
      exact wp_lift (a := false) (by unfold neM; rw [if_pos ⟨rfl, rfl⟩]; simp) ⟨rfl, rfl⟩
    rintro _ n8 ⟨rfl, rfl⟩
    rw [if_neg (by decide)]
    refine wp_bind (wp_nxt (by decide) h8 fun ap n9 h9 p0 p1 => ?_)
    refine wp_bind (wp_lift (first_ok ex ey edx edy g1 g2 g3 g4 (by omega)) ?_)
    have hsd := hsq.2
    refine wp_bind (wp_lift (mulM_ok (by omega) (by show ((sq x y dx dy (tm x y dx dy)).den : Int).natAbs < _; omega)) ?_)
    have e9 : (!decide (sq x y dx dy (tm x y dx dy) < (ap : Rat))) = decide (ap * (toP (tm x y dx dy), toP (sq x y dx dy (tm x y dx dy))).snd.snd ≤ (toP (tm x y dx dy), toP (sq x y dx dy (tm x y dx dy))).snd.fst) := by
      show (!decide (sq x y dx dy (tm x y dx dy) < (ap : Rat))) = decide (ap * ((sq x y dx dy (tm x y dx dy)).den : Int) ≤ (sq x y dx dy (tm x y dx dy)).num)
      rw [decide_eq_decide.mpr (Rat.lt_iff _ _)]
      show (!decide ((sq x y dx dy (tm x y dx dy)).num * 1 < ap * ((sq x y dx dy (tm x y dx dy)).den : Int))) = _
      rw [Int.mul_one]
      generalize ap * ((sq x y dx dy (tm x y dx dy)).den : Int) = u
      generalize (sq x y dx dy (tm x y dx dy)).num = v
      by_cases hh : v < u
      · simp [hh]
      · simp [hh]; omega
    rw [e9]
    refine wp_bind (wp_lift (a := false) (by unfold neM; rw [if_pos ⟨rfl, rfl⟩]; simp) ?_)
    rw [if_neg (by decide)]
    refine wp_bind (wp_lift (a := [0, 1, 2, 3]) (by decide +kernel) ?_)
    refine wp_seq (fun r s => r = [a, b, p, q] ∧ s = n9) ?_ ?_
    · unfold foldM' foldM' foldM' foldM' foldM'
      simp only [pure_bind, bind_assoc]
      refine wp_bind (wp_lift (a := [a, b, q, -p]) rfl ?_)
      refine wp_bind (wp_lift (a := [a, b, -p, -q]) rfl ?_)
      refine wp_bind (wp_lift (a := [a, b, -q, - -p]) rfl ?_)
      refine wp_bind (wp_lift (a := [a, b, - -p, - -q]) rfl ?_)
      refine wp_pure ⟨?_, rfl⟩
      rw [Int.neg_neg, Int.neg_neg]
    rintro _ _ ⟨rfl, rfl⟩
    refine wp_bind (wp_nxt (by decide) h9 fun hn n10 h10 q0 q1 => ?_)
    refine wp_bind (wp_nxt (by decide) h10 fun hd n11 h11 r0 r1 => ?_)
    refine wp_bind (wp_lift (least_ok _ _ (by omega) (by omega)) ?_)
    have hb : Bd 20 5 (Rat.divInt hn (1 + hd)) := bd_div (by omega) (by omega) (by omega)
    obtain ⟨t, et⟩ : ∃ t, Rat.divInt hn (1 + hd) = t := ⟨_, rfl⟩
    rw [et] at hb ⊢
    refine wp_bind (wp_lift (a := a) rfl ?_)
    refine wp_bind (wp_lift (a := p) rfl ?_)
    simp only [int_P p]
    have bp : (p : Int).natAbs ≤ 6 := by omega
    have bq : (q : Int).natAbs ≤ 6 := by omega
    have ba : (a : Int).natAbs ≤ 20 := by omega
    have bb : (b : Int).natAbs ≤ 20 := by omega
    refine wp_bind (wp_lift (ltimes_ok hb (bd_int bp)) ?_)
    simp only [int_P a]
    refine wp_bind (wp_lift (lplus_ok (bd_int ba) (bd_mul hb (bd_int bp))) ?_)
    refine wp_bind (wp_lift (a := b) rfl ?_)
    refine wp_bind (wp_lift (a := q) rfl ?_)
    simp only [int_P q]
    refine wp_bind (wp_lift (ltimes_ok hb (bd_int bq)) ?_)
    simp only [int_P b]
    refine wp_bind (wp_lift (lplus_ok (bd_int bb) (bd_mul hb (bd_int bq))) ?_)
    refine wp_bind (wp_lift (a := true) (by unfold eqM; rw [if_pos ⟨rfl, rfl⟩]; simp) ?_)
    rw [if_pos rfl]
    refine wp_bind (wp_lift (at_ok (by omega) (by omega) (by omega) (by omega) hb) ?_)
    refine wp_bind (wp_lift (a := true) (by unfold eqM; rw [if_pos ⟨rfl, rfl⟩]; simp) ?_)
    rw [if_pos rfl]
    refine wp_bind (wp_lift (a := some 0) (first_safe_ok ex ey edx edy g1 g2 g3 g4) ?_)
    refine wp_bind (wp_lift (a := true) (by unfold eqM; rw [if_pos ⟨rfl, rfl⟩]; simp) ?_)
    rw [if_pos rfl]
    obtain ⟨mr, hmr, hms⟩ := meet_ok ex ey edx edy g1 g2 g3 g4 (by omega) (by omega) (by omega) (by omega)
    refine wp_bind (wp_lift hmr ?_)
    refine wp_bind (wp_lift (a := decide (sq x y dx dy (tm x y dx dy) = 0)) ?_ ?_)
    · unfold eqM; rw [if_pos ⟨rfl, rfl⟩, toP_zero]
    refine wp_lift (a := true) (by unfold eqM; rw [if_pos ⟨rfl, rfl⟩, hms]; simp) ⟨rfl, by omega⟩
  obtain ⟨r, n', e, rfl, k⟩ := wp_sm this
  exact ⟨n', e⟩
end Law

open PySem PySem.W PyProof.Rows
theorem PySem.Challenge.cw_tidestold_k15_whole_known_two_ships_that_holds : PySem.Challenge.rw_tidestold_k15_whole_known_two_ships_that.Holds := by
  w_on; o_law; k_head; (case hw => w_witness2)
  k_fill
  refine L2.walk_of (l := PySem.Challenge.rw_tidestold_k15_whole_known_two_ships_that) (n := 63) (k := 10) (x := "script") (CX := fun _ => L2.CX0) (sp := fun w => TC.spLaw _) rfl (by decide) rfl ⟨rfl, by decide, by decide⟩ (fun w h Y => PySem.W.kIn_of Y) ?F (fun _ _ a ns hl _ hS => ⟨a, ns, rfl, hS, hl, fun _ => rfl⟩) (fun _ _ _ _ _ h => h)
  case F =>
    intro w mg fa h KX G hmg
    refine' Law.all_mk KX G hmg ?a_common ?l_common ?c_common ?k_common ?a_fraction ?l_fraction ?c_fraction ?k_fraction ?a_plus ?l_plus ?c_plus ?k_plus ?a_times ?l_times ?c_times ?k_times ?a_is_less ?l_is_less ?c_is_less ?k_is_less ?a_at_hour ?l_at_hour ?c_at_hour ?k_at_hour ?a_gap_of ?l_gap_of ?c_gap_of ?k_gap_of ?a_square_at ?l_square_at ?c_square_at ?k_square_at ?a_closest ?l_closest ?c_closest ?k_closest ?a_is_safe ?l_is_safe ?c_is_safe ?k_is_safe ?a_turned_right ?l_turned_right ?c_turned_right ?k_turned_right ?a_first_safe ?l_first_safe ?c_first_safe ?k_first_safe ?a_meet_spot ?l_meet_spot ?c_meet_spot ?k_meet_spot ?a__law_draws ?l__law_draws ?c__law_draws ?k__law_draws ?a__law_next ?l__law_next ?c__law_next ?k__law_next ?a__law_least ?l__law_least ?c__law_least ?k__law_least ?a__law_plus ?l__law_plus ?c__law_plus ?k__law_plus ?a__law_times ?l__law_times ?c__law_times ?k__law_times ?a__law_holds ?l__law_holds ?c__law_holds ?k__law_holds ?a_law ?l_law ?c_law ?k_law ?z_abs ?z_int ?z_len ?z_range ?z_tuple ?z_zip ?ga_NOTHING ?gl_NOTHING Law.Pd Law.hm1 Law.hm2
    (case a_common => k_is); (case l_common => k_is); (case c_common => k_is); (case k_common => k_is); (case a_fraction => k_is); (case l_fraction => k_is); (case c_fraction => k_is); (case k_fraction => k_is)
    (case a_plus => k_is); (case l_plus => k_is); (case c_plus => k_is); (case k_plus => k_is); (case a_times => k_is); (case l_times => k_is); (case c_times => k_is); (case k_times => k_is)
    (case a_is_less => k_is); (case l_is_less => k_is); (case c_is_less => k_is); (case k_is_less => k_is); (case a_at_hour => k_is); (case l_at_hour => k_is); (case c_at_hour => k_is); (case k_at_hour => k_is)
    (case a_gap_of => k_is); (case l_gap_of => k_is); (case c_gap_of => k_is); (case k_gap_of => k_is); (case a_square_at => k_is); (case l_square_at => k_is); (case c_square_at => k_is); (case k_square_at => k_is)
    (case a_closest => k_is); (case l_closest => k_is); (case c_closest => k_is); (case k_closest => k_is); (case a_is_safe => k_is); (case l_is_safe => k_is); (case c_is_safe => k_is); (case k_is_safe => k_is)
    (case a_turned_right => k_is); (case l_turned_right => k_is); (case c_turned_right => k_is); (case k_turned_right => k_is); (case a_first_safe => k_is); (case l_first_safe => k_is); (case c_first_safe => k_is); (case k_first_safe => k_is)
    (case a_meet_spot => k_is); (case l_meet_spot => k_is); (case c_meet_spot => k_is); (case k_meet_spot => k_is); (case a__law_draws => k_is); (case l__law_draws => k_is); (case c__law_draws => k_is); (case k__law_draws => k_is)
    (case a__law_next => k_is); (case l__law_next => k_is); (case c__law_next => k_is); (case k__law_next => k_is); (case a__law_least => k_is); (case l__law_least => k_is); (case c__law_least => k_is); (case k__law_least => k_is)
    (case a__law_plus => k_is); (case l__law_plus => k_is); (case c__law_plus => k_is); (case k__law_plus => k_is); (case a__law_times => k_is); (case l__law_times => k_is); (case c__law_times => k_is); (case k__law_times => k_is)
    (case a__law_holds => k_is); (case l__law_holds => k_is); (case c__law_holds => k_is); (case k__law_holds => k_is); (case a_law => k_is); (case l_law => k_is); (case c_law => k_is); (case k_law => k_is)
    (case z_abs => k_is); (case z_int => k_is); (case z_len => k_is); (case z_range => k_is); (case z_tuple => k_is); (case z_zip => k_is); (case ga_NOTHING => k_is); (case gl_NOTHING => k_is)

