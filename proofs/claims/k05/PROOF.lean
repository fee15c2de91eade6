import PyProof.Rows.All
import Wide.All
import OpenK.AllK
import Wide.FinOn
import HandS.ForMost
import HandS.Wide
import HandS.Zip
import HandS.Style
import HandS.TupAny
import HandS.TupMul
import KE.DataMinMax
import KE.SortData
import KE.KTupSum
import KE.DataFind
import PyProof.SeqIndex
import PySem.Challenge.RW_tidestold_k05_whole_known_lasting_sand_c
set_option Elab.async false
set_option linter.all false
set_option maxRecDepth 100000
set_option maxHeartbeats 4000000
namespace TC
open PySem PySem.Spec PyProof.Rows L2

/-! ### data over the heap -/
def immO : HO → Prop
  | .tup _ => True
  | .frz _ _ => True
  | _ => False
structure gr (A : Addr → Prop) (H H' : Hp) : Prop where
  kp : ∀ a o, H a = some o → (A a → immO o) → H' a = some o
  ex : ∀ a, H a ≠ none → H' a ≠ none
theorem gr.refl (A : Addr → Prop) (H : Hp) : gr A H H := ⟨fun _ _ h _ => h, fun _ h => h⟩
theorem gr.trans {A : Addr → Prop} {H H1 H2 : Hp} (a : gr A H H1) (b : gr A H1 H2) : gr A H H2 :=
  ⟨fun c o h i => b.kp c o (a.kp c o h i) i, fun c h => b.ex c (a.ex c h)⟩
theorem gr.mono {A B : Addr → Prop} {H H1 : Hp} (a : gr A H H1) (h : ∀ c, A c → B c) : gr B H H1 :=
  ⟨fun c o e i => a.kp c o e fun z => i (h c z), a.ex⟩
theorem gr.of_same {A : Addr → Prop} {H H1 : Hp} (a : Same H H1) : gr A H H1 :=
  ⟨fun c o e _ => a c o e, fun c h => by
    cases q : H c with
    | none => exact absurd q h
    | some o => rw [a c o q]; simp⟩
theorem gr.new {A : Addr → Prop} {H : Hp} {p : Addr} {o : HO} (n : H p = none) : gr A H (upd H p o) :=
  gr.of_same fun b u e => by rw [upd_ne (ne_of_none e n)]; exact e

def keyD : Key → PyData
  | .inl i => .int i
  | .inr s => .str s

mutual
inductive Rp (K : PySem.W.Frag) (A : Addr → Prop) (H : Hp) : V → PyData → Prop
  | non : Rp K A H .non .none
  | bl (b : Bool) : Rp K A H (.bl b) (.bool b)
  | int (i : Int) : Rp K A H (.int i) (.int i)
  | str (x : Str) : Rp K A H (.str x) (.str x)
  | tup {a : Addr} {xs : List V} {ds : List PyData} : xs.length ≤ sizeLine → SqT K H a xs → RpAll K A H xs ds → Rp K A H (.ref a) (.tuple ds)
  | obj {a : Addr} {d : PyData} : ¬ A a → RpO K A H a d → Rp K A H (.ref a) d
inductive RpO (K : PySem.W.Frag) (A : Addr → Prop) (H : Hp) : Addr → PyData → Prop
  | lst {a : Addr} {xs : List V} {ds : List PyData} : xs.length ≤ sizeLine → H a = some (.lst xs) → RpAll K A H xs ds → RpO K A H a (.list ds)
  | dK {a : Addr} {kvs : List (Key × V)} {ds : List (PyData × PyData)} : Rd H a (.dK kvs) → kvs.map (fun p => keyD p.1) = ds.map (·.1) → RpAll K A H (kvs.map (·.2)) (ds.map (·.2)) → RpO K A H a (.dict ds)
  | dT {a : Addr} {kvs : List (List Key × V)} {ds : List (PyData × PyData)} : Rd H a (.dT kvs) → kvs.map (fun p => PyData.tuple (p.1.map keyD)) = ds.map (·.1) → RpAll K A H (kvs.map (·.2)) (ds.map (·.2)) → RpO K A H a (.dict ds)
inductive RpAll (K : PySem.W.Frag) (A : Addr → Prop) (H : Hp) : List V → List PyData → Prop
  | nil : RpAll K A H [] []
  | cons {v : V} {vs : List V} {d : PyData} {ds : List PyData} : Rp K A H v d → RpAll K A H vs ds → RpAll K A H (v :: vs) (d :: ds)
end

section
variable {K : PySem.W.Frag} {A B : Addr → Prop} {H H' : Hp}
theorem gr.rd {a : Addr} {u : HO} (g : gr A H H') (n : A a → immO u) (h : Rd H a u) : Rd H' a u := by
  rcases h with h | ⟨o, h⟩
  · exact .inl (g.kp a _ h n)
  · exact .inr ⟨o, g.kp a _ h fun _ => trivial⟩
theorem gr.sqt {a : Addr} {xs : List V} (g : gr A H H') (h : SqT K H a xs) : SqT K H' a xs := by
  rcases h with h | h
  · exact .inl (g.rd (fun _ => trivial) h)
  · exact .inr h
mutual
theorem Rp.mono (g : gr A H H') : ∀ {v d}, Rp K A H v d → Rp K A H' v d
  | _, _, .non => .non
  | _, _, .bl b => .bl b
  | _, _, .int i => .int i
  | _, _, .str i => .str i
  | _, _, .tup z h t => .tup z (g.sqt h) (RpAll.mono g t)
  | _, _, .obj n t => .obj n (RpO.mono g n t)
theorem RpO.mono (g : gr A H H') : ∀ {a d}, ¬ A a → RpO K A H a d → RpO K A H' a d
  | _, _, n, .lst z h t => .lst z (g.kp _ _ h fun z => absurd z n) (RpAll.mono g t)
  | _, _, n, .dK h e t => .dK (g.rd (fun z => absurd z n) h) e (RpAll.mono g t)
  | _, _, n, .dT h e t => .dT (g.rd (fun z => absurd z n) h) e (RpAll.mono g t)
theorem RpAll.mono (g : gr A H H') : ∀ {v d}, RpAll K A H v d → RpAll K A H' v d
  | _, _, .nil => .nil
  | _, _, .cons h t => .cons (Rp.mono g h) (RpAll.mono g t)
end
theorem Rd.some {a : Addr} {u : HO} (h : Rd H a u) : H a ≠ none := by
  rcases h with h | ⟨o, h⟩ <;> rw [h] <;> simp
theorem RpO.some {a : Addr} {d : PyData} (h : RpO K A H a d) : H a ≠ none := by
  cases h with
  | lst _ h _ => rw [h]; simp
  | dK h _ _ => exact Rd.some h
  | dT h _ _ => exact Rd.some h
mutual
/-- other addresses are avoided: each that H knows was avoided before -/
theorem Rp.chg (g : ∀ a, B a → H a ≠ none → A a) : ∀ {v d}, Rp K A H v d → Rp K B H v d
  | _, _, .non => .non
  | _, _, .bl b => .bl b
  | _, _, .int i => .int i
  | _, _, .str i => .str i
  | _, _, .tup z h t => .tup z h (RpAll.chg g t)
  | _, _, .obj n t => .obj (fun z => n (g _ z (RpO.some t))) (RpO.chg g t)
theorem RpO.chg (g : ∀ a, B a → H a ≠ none → A a) : ∀ {a d}, RpO K A H a d → RpO K B H a d
  | _, _, .lst z h t => .lst z h (RpAll.chg g t)
  | _, _, .dK h e t => .dK h e (RpAll.chg g t)
  | _, _, .dT h e t => .dT h e (RpAll.chg g t)
theorem RpAll.chg (g : ∀ a, B a → H a ≠ none → A a) : ∀ {v d}, RpAll K A H v d → RpAll K B H v d
  | _, _, .nil => .nil
  | _, _, .cons h t => .cons (Rp.chg g h) (RpAll.chg g t)
end
theorem Rp.weak (h : Rp K A H v d) (g : ∀ a, B a → A a) : Rp K B H v d := h.chg fun a b _ => g a b

/-! no list and no dict within -/
mutual
def immD : PyData → Bool
  | .tuple xs => immDs xs
  | .list _ => false
  | .dict _ => false
  | _ => true
def immDs : List PyData → Bool
  | [] => true
  | x :: xs => immD x && immDs xs
end
mutual
theorem Rp.any : ∀ {v d}, immD d = true → Rp K A H v d → Rp K B H v d
  | _, _, _, .non => .non
  | _, _, _, .bl b => .bl b
  | _, _, _, .int i => .int i
  | _, _, _, .str i => .str i
  | _, _, i, .tup z h t => .tup z h (RpAll.any (by simpa [immD] using i) t)
  | _, _, i, .obj n (.lst _ _ _) => by simp [immD] at i
  | _, _, i, .obj n (.dK _ _ _) => by simp [immD] at i
  | _, _, i, .obj n (.dT _ _ _) => by simp [immD] at i
theorem RpAll.any : ∀ {v d}, immDs d = true → RpAll K A H v d → RpAll K B H v d
  | _, _, _, .nil => .nil
  | _, _, i, .cons h t => by
    simp only [immDs, Bool.and_eq_true] at i
    exact .cons (Rp.any i.1 h) (RpAll.any i.2 t)
end
theorem RpAll.length : ∀ {vs : List V} {ds : List PyData}, RpAll K A H vs ds → vs.length = ds.length
  | _, _, .nil => rfl
  | _, _, .cons _ t => by simp [RpAll.length t]
theorem RpAll.get : ∀ {vs : List V} {ds : List PyData} {i : Nat} {d : PyData}, RpAll K A H vs ds → ds[i]? = some d → ∃ v, vs[i]? = some v ∧ Rp K A H v d
  | _, _, i, _, .nil, e => by simp at e
  | _, _, 0, _, .cons (v := v) h t, e => by
    have e : _ = _ := Option.some.inj e
    subst e
    exact ⟨v, rfl, h⟩
  | _, _, i + 1, _, .cons h t, e => by
    obtain ⟨v, h1, h2⟩ := RpAll.get (i := i) t (by simpa using e)
    exact ⟨v, by simpa using h1, h2⟩
theorem RpAll.append : ∀ {vs ws : List V} {ds es : List PyData}, RpAll K A H vs ds → RpAll K A H ws es → RpAll K A H (vs ++ ws) (ds ++ es)
  | _, _, _, _, .nil, s => s
  | _, _, _, _, .cons h t, s => .cons h (RpAll.append t s)
theorem RpAll.take : ∀ {vs : List V} {ds : List PyData} (n : Nat), RpAll K A H vs ds → RpAll K A H (vs.take n) (ds.take n)
  | _, _, 0, _ => by simpa using .nil
  | _, _, n + 1, .nil => .nil
  | _, _, n + 1, .cons h t => .cons h (RpAll.take n t)
theorem RpAll.drop : ∀ {vs : List V} {ds : List PyData} (n : Nat), RpAll K A H vs ds → RpAll K A H (vs.drop n) (ds.drop n)
  | _, _, 0, h => h
  | _, _, n + 1, .nil => .nil
  | _, _, n + 1, .cons h t => RpAll.drop n t
theorem RpAll.reverse : ∀ {vs : List V} {ds : List PyData}, RpAll K A H vs ds → RpAll K A H vs.reverse ds.reverse
  | _, _, .nil => .nil
  | _, _, .cons h t => by
    rw [List.reverse_cons, List.reverse_cons]
    exact (RpAll.reverse t).append (.cons h .nil)
theorem Rp.int_inv {v : V} {i : Int} (h : Rp K A H v (.int i)) : v = .int i := by
  cases h with
  | int => rfl
  | obj n h => nomatch h
theorem Rp.bl_inv {v : V} {i : Bool} (h : Rp K A H v (.bool i)) : v = .bl i := by
  cases h with
  | bl => rfl
  | obj n h => nomatch h
theorem Rp.str_inv {v : V} {i : Str} (h : Rp K A H v (.str i)) : v = .str i := by
  cases h with
  | str => rfl
  | obj n h => nomatch h
theorem Rp.non_inv {v : V} (h : Rp K A H v .none) : v = .non := by
  cases h with
  | non => rfl
  | obj n h => nomatch h
theorem Rp.tup_inv {v : V} {ds : List PyData} (h : Rp K A H v (.tuple ds)) : ∃ a xs, v = .ref a ∧ xs.length ≤ sizeLine ∧ SqT K H a xs ∧ RpAll K A H xs ds := by
  cases h with
  | tup z h t => exact ⟨_, _, rfl, z, h, t⟩
  | obj n h => nomatch h
theorem Rp.lst_inv {v : V} {ds : List PyData} (h : Rp K A H v (.list ds)) : ∃ a xs, v = .ref a ∧ ¬ A a ∧ xs.length ≤ sizeLine ∧ H a = some (.lst xs) ∧ RpAll K A H xs ds := by
  cases h with
  | obj n h => cases h with | lst z h t => exact ⟨_, _, rfl, n, z, h, t⟩
theorem Rp.dct_inv {v : V} {ds : List (PyData × PyData)} (h : Rp K A H v (.dict ds)) : ∃ a, v = .ref a ∧ ¬ A a ∧ RpO K A H a (.dict ds) := by
  cases h with
  | obj n h => exact ⟨_, rfl, n, h⟩
end

/-! ### what stands for data -/
class Py (α : Type) where
  enc : α → PyData
open Py (enc)
class Imm (α : Type) [Py α] : Prop where
  imm : ∀ x : α, immD (enc x) = true
instance : Py Int := ⟨.int⟩
instance : Imm Int := ⟨fun _ => rfl⟩
instance : Py Bool := ⟨.bool⟩
instance : Imm Bool := ⟨fun _ => rfl⟩
instance : Py Str := ⟨.str⟩
instance : Imm Str := ⟨fun _ => rfl⟩
instance : Py Unit := ⟨fun _ => .none⟩
instance : Imm Unit := ⟨fun _ => rfl⟩
instance {α} [Py α] : Py (Option α) := ⟨fun o => match o with | none => .none | some x => enc x⟩
instance {α} [Py α] [Imm α] : Imm (Option α) := ⟨fun o => match o with | none => rfl | some x => Imm.imm x⟩
instance {α β} [Py α] [Py β] : Py (Sum α β) := ⟨fun o => match o with | .inl x => enc x | .inr x => enc x⟩
instance {α β} [Py α] [Py β] [Imm α] [Imm β] : Imm (Sum α β) := ⟨fun o => match o with | .inl x => Imm.imm x | .inr x => Imm.imm x⟩
instance {α β} [Py α] [Py β] : Py (α × β) := ⟨fun p => .tuple [enc p.1, enc p.2]⟩
theorem imm_and {a b : Bool} (h : a = true) (k : b = true) : (a && b) = true := by rw [h, k]; rfl
instance {α β} [Py α] [Py β] [Imm α] [Imm β] : Imm (α × β) := ⟨fun p => by simp [enc, immD, immDs, Imm.imm]⟩
structure T3 (α β γ : Type) where
  a : α
  b : β
  c : γ
  deriving DecidableEq, Repr, Inhabited
structure T4 (α β γ δ : Type) where
  a : α
  b : β
  c : γ
  d : δ
  deriving DecidableEq, Repr, Inhabited
instance {α β γ} [Py α] [Py β] [Py γ] : Py (T3 α β γ) := ⟨fun p => .tuple [enc p.a, enc p.b, enc p.c]⟩
instance {α β γ} [Py α] [Py β] [Py γ] [Imm α] [Imm β] [Imm γ] : Imm (T3 α β γ) := ⟨fun p => by simp [enc, immD, immDs, Imm.imm]⟩
instance {α β γ δ} [Py α] [Py β] [Py γ] [Py δ] : Py (T4 α β γ δ) := ⟨fun p => .tuple [enc p.a, enc p.b, enc p.c, enc p.d]⟩
instance {α β γ δ} [Py α] [Py β] [Py γ] [Py δ] [Imm α] [Imm β] [Imm γ] [Imm δ] : Imm (T4 α β γ δ) := ⟨fun p => by simp [enc, immD, immDs, Imm.imm]⟩
/-- a tuple of any length -/
instance {α} [Py α] : Py (List α) := ⟨fun xs => .tuple (xs.map enc)⟩
theorem immDs_map {α : Type} [Py α] [Imm α] : ∀ xs : List α, immDs (xs.map enc) = true
  | [] => rfl
  | x :: xs => by simp [immDs, Imm.imm, immDs_map xs]
instance {α} [Py α] [Imm α] : Imm (List α) := ⟨fun xs => by simpa [enc, immD] using immDs_map xs⟩
/-- a list -/
structure Ls (α : Type) where
  l : List α
  deriving DecidableEq, Repr, Inhabited
instance {α} [Py α] : Py (Ls α) := ⟨fun xs => .list (xs.l.map enc)⟩

/-! ### the mirrors' monad -/
class MR (m : Type → Type) (S : outParam Type) [Monad m] where
  run : {α : Type} → m α → S → Option (α × S)
  run_pure : ∀ {α : Type} (a : α) (s : S), run (pure a : m α) s = some (a, s)
  run_bind : ∀ {α β : Type} (x : m α) (f : α → m β) (s : S), run (x >>= f) s = (run x s).bind fun p => run (f p.1) p.2
  lift : {α : Type} → Option α → m α
  run_lift : ∀ {α : Type} (o : Option α) (s : S), run (lift o) s = o.map fun a => (a, s)
instance : MR Option Unit where
  run x _ := x.map fun a => (a, ())
  run_pure _ _ := rfl
  run_bind x f s := by cases x <;> rfl
  lift o := o
  run_lift _ _ := rfl
abbrev SM (S : Type) := StateT S Option
instance {S : Type} : MR (SM S) S where
  run x s := x s
  run_pure _ _ := rfl
  run_bind x f s := rfl
  lift o := fun s => o.map fun a => (a, s)
  run_lift _ _ := rfl
theorem run_bind_some {m : Type → Type} {S : Type} [Monad m] [MR m S] {α β : Type} {x : m α} {f : α → m β} {s s' : S} {b : β} (h : MR.run (x >>= f) s = some (b, s')) :
    ∃ a s1, MR.run x s = some (a, s1) ∧ MR.run (f a) s1 = some (b, s') := by
  rw [MR.run_bind] at h
  cases q : MR.run x s with
  | none => rw [q] at h; cases h
  | some p => rw [q] at h; exact ⟨p.1, p.2, rfl, h⟩
theorem run_pure_some {m : Type → Type} {S : Type} [Monad m] [MR m S] {α : Type} {a b : α} {s s' : S} (h : MR.run (pure a : m α) s = some (b, s')) : a = b ∧ s = s' := by
  rw [MR.run_pure] at h
  cases h
  exact ⟨rfl, rfl⟩
theorem run_lift_some {m : Type → Type} {S : Type} [Monad m] [MR m S] {α : Type} {o : Option α} {b : α} {s s' : S} (h : MR.run (MR.lift o : m α) s = some (b, s')) : o = some b ∧ s = s' := by
  rw [MR.run_lift] at h
  cases o with
  | none => cases h
  | some a => cases h; exact ⟨rfl, rfl⟩

structure Wd (S : Type) where
  Av : Addr → Prop
  WI : S → Hp → Prop
  old : ∀ s H a, WI s H → Av a → H a ≠ none
  keep : ∀ s H H', WI s H → (∀ a o, Av a → H a = some o → H' a = some o) → WI s H'
def W0 : Wd Unit := ⟨fun _ => False, fun _ _ => True, fun _ _ _ _ h => h.elim, fun _ _ _ _ _ => trivial⟩
theorem Wd.new {S : Type} (W : Wd S) {s : S} {H : Hp} {p : Addr} {o : HO} (h : W.WI s H) (n : H p = none) : W.WI s (upd H p o) :=
  W.keep s H _ h fun a u z e => by rw [upd_ne (ne_of_none e n)]; exact e
end TC

namespace TC
open PySem PySem.Spec PyProof.Rows L2
open Py (enc)

abbrev Sg := L2.St
/-! ### readings that are what they are -/
def wE (X : Cx) (e : Expr) : TE := fun σ H Q => ∀ pins s, Inv X pins σ H s → wpAny (model X.prog X.w) X.A (eval e X.env) (EP X pins σ Q) X.xe s
def wT (X : Cx) (e : Expr) : TT := fun σ H Q => ∀ pins s, Inv X pins σ H s → wpAny (model X.prog X.w) X.A (isTrue e X.env (eval e X.env)) (TP X pins σ Q) X.xe s
def wW (X : Cx) (e : Expr) : TT := fun σ H Q => ∀ wh pins s, Inv X pins σ H s → wpAny (model X.prog X.w) X.A (isTrue e X.env wh) (TP X pins σ Q) X.xe s
def wA (X : Cx) (es : List Expr) : TA := fun σ H Q => ∀ pos pins s, Inv X pins σ H s → wpAny (model X.prog X.w) X.A (spliced (backTo pos (starEach es X.env))) (AP X pins σ Q) X.xe s
def wS (X : Cx) (st : Stmt) : TS := fun D σ H => ∀ pins s, Inv X pins σ H s → wpAny (model X.prog X.w) X.A (exec st X.env) (SP X pins D) X.xe s
def wSs (X : Cx) (st : List Stmt) : TS := fun D σ H => ∀ pins s, Inv X pins σ H s → wpAny (model X.prog X.w) X.A (execs st X.env) (SP X pins D) X.xe s
def wI (X : Cx) (tg iter : Expr) : TI := fun σ H R => ∀ pins s, Inv X pins σ H s → wpAny (model X.prog X.w) X.A (eval iter X.env) (fun v s1 => wpAny (model X.prog X.w) X.A (pyIter v) (PIE X pins σ tg R) X.xe s1) X.xe s
section
variable {X : Cx}
theorem peW (e : Expr) : PE X e (wE X e) := ⟨fun pins s _ _ _ I h => h pins s I⟩
theorem ptW (e : Expr) : PT X e (wT X e) := ⟨fun pins s _ _ _ I h => h pins s I⟩
theorem pwW (e : Expr) : PW X e (wW X e) := ⟨fun wh pins s _ _ _ I h => h wh pins s I⟩
theorem paW (e : List Expr) : PA X e (wA X e) := ⟨fun pos pins s _ _ _ I h => h pos pins s I⟩
theorem psW (e : Stmt) : PS X e (wS X e) := ⟨fun pins s _ _ _ I h => h pins s I⟩
theorem pssW (e : List Stmt) : PSs X e (wSs X e) := ⟨fun pins s _ _ _ I h => h pins s I⟩
theorem piW (tg e : Expr) : PI X tg e (wI X tg e) := ⟨fun pins s _ _ _ I h => h pins s I⟩
theorem wE.of {e : Expr} {t : TE} (p : PE X e t) {σ : Sg} {H : Hp} {Q : VK} (h : t σ H Q) : wE X e σ H Q := fun pins s I => p.run pins s σ H Q I h
theorem wT.of {e : Expr} {t : TT} (p : PT X e t) {σ : Sg} {H : Hp} {Q : Bool → Hp → Prop} (h : t σ H Q) : wT X e σ H Q := fun pins s I => p.run pins s σ H Q I h
theorem wW.of {e : Expr} {t : TT} (p : PW X e t) {σ : Sg} {H : Hp} {Q : Bool → Hp → Prop} (h : t σ H Q) : wW X e σ H Q := fun wh pins s I => p.run wh pins s σ H Q I h
theorem wA.of {e : List Expr} {t : TA} (p : PA X e t) {σ : Sg} {H : Hp} {Q : List V → Hp → Prop} (h : t σ H Q) : wA X e σ H Q := fun pos pins s I => p.run pos pins s σ H Q I h
theorem wS.of {e : Stmt} {t : TS} (p : PS X e t) {σ : Sg} {H : Hp} {D : Ends} (h : t D σ H) : wS X e D σ H := fun pins s I => p.run pins s σ H D I h
theorem wSs.of {e : List Stmt} {t : TS} (p : PSs X e t) {σ : Sg} {H : Hp} {D : Ends} (h : t D σ H) : wSs X e D σ H := fun pins s I => p.run pins s σ H D I h
theorem wI.of {tg e : Expr} {t : TI} (p : PI X tg e t) {σ : Sg} {H : Hp} {R : It → Hp → Prop} (h : t σ H R) : wI X tg e σ H R := fun pins s I => p.run pins s σ H R I h
end

/-! ### slots -/
/-- what a slot holds: nothing that is known; data; a list or dict of the def's own that may change -/
inductive SK (γ : Type) where
  | u
  | v (d : γ → PyData)
  | o (d : γ → PyData)
  | k (v : V)
def SK.cm {γ δ : Type} (π : δ → γ) : SK γ → SK δ
  | .u => .u
  | .v d => .v fun g => d (π g)
  | .o d => .o fun g => d (π g)
  | .k z => .k z
def Own {γ : Type} (ss : List (SK γ)) (σ : Sg) (a : Addr) : Prop := ∃ (i : Nat) (d : γ → PyData), ss[i]? = some (.o d) ∧ σ[i]? = some (some (.ref a))
def slotR {γ : Type} (K : PySem.W.Frag) (Av A : Addr → Prop) (H0 H : Hp) (k : SK γ) (g : γ) (o : Option V) : Prop :=
  match k with
  | .u => True
  | .v d => ∃ v, o = some v ∧ Rp K A H v (d g)
  | .k z => o = some z
  | .o d => ∃ a, o = some (.ref a) ∧ RpO K A H a (d g) ∧ H0 a = none ∧ ¬ Av a ∧ ∃ x, H a = some x ∧ ¬ immO x
structure Rr (K : PySem.W.Frag) (Av : Addr → Prop) (H0 : Hp) {γ : Type} (ss : List (SK γ)) (g : γ) (σ : Sg) (H : Hp) : Prop where
  base : gr Av H0 H
  len : ss.length = σ.length
  slot : ∀ (i : Nat) (k : SK γ) (o : Option V), ss[i]? = some k → σ[i]? = some o → slotR K Av (fun a => Av a ∨ Own ss σ a) H0 H k g o
  one : ∀ (i j : Nat) (d e : γ → PyData) (a : Addr), ss[i]? = some (.o d) → ss[j]? = some (.o e) → σ[i]? = some (some (.ref a)) → σ[j]? = some (some (.ref a)) → i = j
section
variable {K : PySem.W.Frag} {Av : Addr → Prop} {H0 H H' : Hp} {γ : Type} {ss : List (SK γ)} {g : γ} {σ : Sg}
theorem gr.immO {A : Addr → Prop} (q : gr A H H') {a : Addr} {o : HO} (h : H a = some o) (n : ¬ A a) : H' a = some o := q.kp a o h fun z => absurd z n
theorem RpO.mono2 {K : PySem.W.Frag} {A B : Addr → Prop} {H H' : Hp} (g : gr A H H') (q : gr B H H') : ∀ {a : Addr} {d : PyData}, ¬ B a → RpO K A H a d → RpO K A H' a d
  | _, _, n, .lst z h t => .lst z (q.kp _ _ h fun z => absurd z n) (RpAll.mono g t)
  | _, _, n, .dK h e t => .dK (q.rd (fun z => absurd z n) h) e (RpAll.mono g t)
  | _, _, n, .dT h e t => .dT (q.rd (fun z => absurd z n) h) e (RpAll.mono g t)
theorem Rr.st (r : Rr K Av H0 ss g σ H) (q : gr Av H H') : Rr K Av H0 ss g σ H' := by
  refine ⟨r.base.trans q, r.len, fun i k o h1 h2 => ?_, r.one⟩
  have h := r.slot i k o h1 h2
  cases k with
  | u => trivial
  | k w => exact h
  | v d =>
    obtain ⟨v, e, h⟩ := h
    exact ⟨v, e, h.mono (q.mono fun _ z => .inl z)⟩
  | o d =>
    obtain ⟨a, e, h, n0, nA, x, hx, mx⟩ := h
    refine ⟨a, e, ?_, n0, nA, x, q.immO hx nA, mx⟩
    have q' : gr (fun a => Av a ∨ Own ss σ a) H H' := q.mono fun _ z => .inl z
    exact h.mono2 q' q nA
/-- what a name holds -/
theorem Rr.get (r : Rr K Av H0 ss g σ H) {i : Nat} {d : γ → PyData} (h : ss[i]? = some (.v d) ∨ ss[i]? = some (.o d)) : ∃ v, σ[i]? = some (some v) ∧ Rp K Av H v (d g) := by
  have hi : i < ss.length := by
    rcases h with h | h
    · exact (List.getElem?_eq_some_iff.mp h).1
    · exact (List.getElem?_eq_some_iff.mp h).1
  obtain ⟨w, hs⟩ : ∃ w, σ[i]? = some w := ⟨_, List.getElem?_eq_getElem (show i < σ.length by rw [← r.len]; exact hi)⟩
  rcases h with h | h
  · obtain ⟨v, e, q⟩ := r.slot i _ _ h hs
    subst e
    exact ⟨v, hs, q.weak fun _ z => .inl z⟩
  · obtain ⟨a, e, q, n0, nA, _⟩ := r.slot i _ _ h hs
    subst e
    exact ⟨.ref a, hs, .obj nA (q.chg fun _ z _ => .inl z)⟩
theorem Rr.ownS (r : Rr K Av H0 ss g σ H) {a : Addr} (h : Own ss σ a) : H a ≠ none ∧ H0 a = none ∧ ¬ Av a := by
  obtain ⟨i, d, h1, h2⟩ := h
  obtain ⟨b, e, q, n0, nA, x, hx, _⟩ := r.slot i _ _ h1 h2
  cases e
  exact ⟨q.some, n0, nA⟩
end

/-! ### expressions -/
section
variable {S : Type} {m : Type → Type} [Monad m] [MR m S] {γ α β : Type} [Py α] [Py β]
/-- e evaluates to what f says -/
def EV (X : Cx) (W : Wd S) (R : γ → Sg → Hp → Prop) (e : Expr) (f : γ → m α) : Prop :=
  ∀ g s x s', MR.run (f g) s = some (x, s') → ∀ σ H, R g σ H → W.WI s H → ∀ Q : VK, (∀ v H', gr W.Av H H' → W.WI s' H' → Rp X.K W.Av H' v (enc x) → Q v H') → wE X e σ H Q
/-- .. and what lists and dicts it hands back are new -/
def EVf (X : Cx) (W : Wd S) (R : γ → Sg → Hp → Prop) (e : Expr) (f : γ → m α) : Prop :=
  ∀ g s x s', MR.run (f g) s = some (x, s') → ∀ σ H, R g σ H → W.WI s H → ∀ Q : VK, (∀ v H', gr W.Av H H' → W.WI s' H' → Rp X.K (fun a => H a ≠ none) H' v (enc x) → Q v H') → wE X e σ H Q
/-- as a test -/
def TV (X : Cx) (W : Wd S) (R : γ → Sg → Hp → Prop) (e : Expr) (f : γ → m Bool) : Prop :=
  ∀ g s x s', MR.run (f g) s = some (x, s') → ∀ σ H, R g σ H → W.WI s H → ∀ Q : Bool → Hp → Prop, (∀ H', gr W.Av H H' → W.WI s' H' → Q x H') → wT X e σ H Q
/-- .. whatever its whole is -/
def TW (X : Cx) (W : Wd S) (R : γ → Sg → Hp → Prop) (e : Expr) (f : γ → m Bool) : Prop :=
  ∀ g s x s', MR.run (f g) s = some (x, s') → ∀ σ H, R g σ H → W.WI s H → ∀ Q : Bool → Hp → Prop, (∀ H', gr W.Av H H' → W.WI s' H' → Q x H') → wW X e σ H Q
/-- arguments: a list of data -/
def AVs (X : Cx) (W : Wd S) (R : γ → Sg → Hp → Prop) (es : List Expr) (f : γ → m (List PyData)) : Prop :=
  ∀ g s x s', MR.run (f g) s = some (x, s') → ∀ σ H, R g σ H → W.WI s H → ∀ Q : List V → Hp → Prop, (∀ vs H', gr W.Av H H' → W.WI s' H' → RpAll X.K W.Av H' vs x → Q vs H') → wA X es σ H Q
def Stb (W : Wd S) (R : γ → Sg → Hp → Prop) : Prop := ∀ g σ H H', R g σ H → gr W.Av H H' → R g σ H'
theorem Rr.stb {K : PySem.W.Frag} {W : Wd S} {H0 : Hp} {ss : List (SK γ)} : Stb W (Rr K W.Av H0 ss) := fun _ _ _ _ r q => r.st q
variable {X : Cx} {W : Wd S} {R : γ → Sg → Hp → Prop} {e a b c : Expr} {pos : Pos}
theorem EV.of_f {f : γ → m α} (h : EVf X W R e f) : EV X W R e f := fun g s x s' r σ H hR hW Q q =>
  h g s x s' r σ H hR hW Q fun v H' g1 w1 p => q v H' g1 w1 (p.weak fun a z => W.old s H a hW z)
theorem EV.f [Imm α] {f : γ → m α} (h : EV X W R e f) : EVf X W R e f := fun g s x s' r σ H hR hW Q q =>
  h g s x s' r σ H hR hW Q fun v H' g1 w1 p => q v H' g1 w1 (p.any (Imm.imm x))
theorem TV.of_w {f : γ → m Bool} (h : TW X W R e f) : TV X W R e f := fun g s x s' r σ H hR hW Q q => fun pins t I =>
  h g s x s' r σ H hR hW Q q _ pins t I

/-- a name -/
theorem E_var {H0 : Hp} {ss : List (SK γ)} {x : Str} (i : Nat) {f : γ → α} (hk : ss[i]? = some (.v fun g => enc (f g)) ∨ ss[i]? = some (.o fun g => enc (f g)))
    (hN : X.N[i]? = some x) (hv : Vis X.env.scope x) (hd : (x == ("__debug__" : Str)) = false) (hcd : (x == ("__classdict__" : Str)) = false) :
    EV X W (Rr X.K W.Av H0 ss) (.Name x pos) (fun g => (pure (f g) : m α)) := fun g s x s' r σ H hR hW Q q => by
  obtain ⟨rfl, rfl⟩ := run_pure_some r
  obtain ⟨v, e, p⟩ := hR.get hk
  exact wE.of (pe_var hN hv hd hcd) ⟨v, e, q v H (.refl _ _) hW p⟩
theorem E_int {i : Int} {j} : EV X W R (.Constant (.int i) j pos) (fun _ => (pure i : m Int)) := fun g s x s' r σ H hR hW Q q => by
  obtain ⟨rfl, rfl⟩ := run_pure_some r
  exact wE.of pe_int (q _ H (.refl _ _) hW (.int _))
theorem E_bl {i : Bool} {j} : EV X W R (.Constant (.bool i) j pos) (fun _ => (pure i : m Bool)) := fun g s x s' r σ H hR hW Q q => by
  obtain ⟨rfl, rfl⟩ := run_pure_some r
  exact wE.of pe_bl (q _ H (.refl _ _) hW (.bl _))
theorem E_str {i : Str} {j} : EV X W R (.Constant (.str i) j pos) (fun _ => (pure i : m Str)) := fun g s x s' r σ H hR hW Q q => by
  obtain ⟨rfl, rfl⟩ := run_pure_some r
  exact wE.of pe_str (q _ H (.refl _ _) hW (.str _))
theorem E_none {j} : EV X W R (.Constant .none j pos) (fun _ => (pure none : m (Option α))) := fun g s x s' r σ H hR hW Q q => by
  obtain ⟨rfl, rfl⟩ := run_pure_some r
  exact wE.of pe_non (q _ H (.refl _ _) hW .non)
/-- data told otherwise -/
theorem E_as {f : γ → m α} (c : α → β) (h : EV X W R e f) (hc : ∀ x, (enc (c x) : PyData) = enc x := by intro _; rfl) : EV X W R e (fun g => f g >>= fun x => pure (c x)) := fun g s x s' r σ H hR hW Q q => by
  obtain ⟨y, s1, h1, h2⟩ := run_bind_some r
  obtain ⟨rfl, rfl⟩ := run_pure_some h2
  exact h g s y s1 h1 σ H hR hW Q fun v H' g1 w1 p => q v H' g1 w1 (by rw [hc]; exact p)
/-- .. where it is so -/
theorem E_cast {f : γ → m α} (c : α → Option β) (h : EV X W R e f) (hc : ∀ x y, c x = some y → (enc y : PyData) = enc x) : EV X W R e (fun g => f g >>= fun x => MR.lift (c x)) := fun g s x s' r σ H hR hW Q q => by
  obtain ⟨y, s1, h1, h2⟩ := run_bind_some r
  obtain ⟨h3, rfl⟩ := run_lift_some h2
  exact h g s y s1 h1 σ H hR hW Q fun v H' g1 w1 p => q v H' g1 w1 (by rw [hc _ _ h3]; exact p)

/-- two values, one behind the other -/
theorem EV.two {f : γ → m α} {k : γ → m β} (sb : Stb W R) (ha : EV X W R a f) (hb : EV X W R b k) {g : γ} {s s1 s2 : S} {x : α} {y : β} (h1 : MR.run (f g) s = some (x, s1)) (h2 : MR.run (k g) s1 = some (y, s2)) {σ : Sg} {H : Hp} (hR : R g σ H) (hW : W.WI s H)
    {Q : V → V → Hp → Prop} (q : ∀ v u H', gr W.Av H H' → W.WI s2 H' → Rp X.K W.Av H' v (enc x) → Rp X.K W.Av H' u (enc y) → Q v u H') :
    wE X a σ H fun v H1 => wE X b σ H1 fun u H2 => Q v u H2 :=
  ha g s x s1 h1 σ H hR hW _ fun v H1 g1 w1 p1 => hb g s1 y s2 h2 σ H1 (sb g σ H H1 hR g1) w1 _ fun u H2 g2 w2 p2 => q v u H2 (g1.trans g2) w2 (p1.mono g2) p2

/-- an operator on two ints -/
theorem E_opI {op : Operator} {C : Int → Int → Prop} {G : Int → Int → Int} (o : Int → Int → Option Int) (ho : ∀ {Y : Cx}, OpR Y (binaryOp op) (rI C fun i j => .int (G i j))) (hc : ∀ i j z, o i j = some z → C i j ∧ z = G i j)
    (sb : Stb W R) {f k : γ → m Int} (ha : EV X W R a f) (hb : EV X W R b k) : EV X W R (.BinOp a op b pos) (fun g => f g >>= fun i => k g >>= fun j => MR.lift (o i j)) := fun g s x s' r σ H hR hW Q q => by
  obtain ⟨i, s1, h1, r⟩ := run_bind_some r
  obtain ⟨j, s2, h2, r⟩ := run_bind_some r
  obtain ⟨h3, rfl⟩ := run_lift_some r
  obtain ⟨c1, rfl⟩ := hc i j x h3
  exact wE.of (pe_op ho (peW a) (peW b)) (EV.two sb ha hb h1 h2 hR hW fun v u H' g1 w1 p1 p2 => ⟨i, j, p1.int_inv, p2.int_inv, c1, q _ H' g1 w1 (.int _)⟩)
/-- .. that always goes -/
theorem E_opI0 {op : Operator} {G : Int → Int → Int} (ho : ∀ {Y : Cx}, OpR Y (binaryOp op) (rI0 fun i j => .int (G i j)))
    (sb : Stb W R) {f k : γ → m Int} (ha : EV X W R a f) (hb : EV X W R b k) : EV X W R (.BinOp a op b pos) (fun g => f g >>= fun i => k g >>= fun j => pure (G i j)) := fun g s x s' r σ H hR hW Q q => by
  obtain ⟨i, s1, h1, r⟩ := run_bind_some r
  obtain ⟨j, s2, h2, r⟩ := run_bind_some r
  obtain ⟨rfl, rfl⟩ := run_pure_some r
  exact wE.of (pe_op ho (peW a) (peW b)) (EV.two sb ha hb h1 h2 hR hW fun v u H' g1 w1 p1 p2 => ⟨i, j, p1.int_inv, p2.int_inv, q _ H' g1 w1 (.int _)⟩)
end
end TC

namespace TC
open PySem PySem.Spec PyProof.Rows L2
open Py (enc)

/-! ### equality -/
class Deq (α : Type) [Py α] [DecidableEq α] where
  shp : α → Bool
  dep : Nat
  lay : ∀ x : α, shp x = true → (enc x).canLay0 = true
  dpt : ∀ x : α, (enc x).depth ≤ dep
  eqv : ∀ x y : α, PyData.eqv (enc x) (enc y) = decide (x = y)
class NN (α : Type) [Py α] : Prop where
  nn : ∀ x : α, (enc x) ≠ PyData.none
open Deq (shp)
instance : Deq Int := ⟨fun _ => true, 0, fun _ _ => by simp [enc, PyData.canLay0], fun _ => by simp [enc, PyData.depth], fun x y => by simp [enc, PyData.eqv]; exact Bool.beq_eq_decide_eq x y⟩
instance : NN Int := ⟨fun _ h => nomatch h⟩
instance : Deq Bool := ⟨fun _ => true, 0, fun _ _ => by simp [enc, PyData.canLay0], fun _ => by simp [enc, PyData.depth], fun x y => by simp [enc, PyData.eqv]; exact Bool.beq_eq_decide_eq x y⟩
instance : NN Bool := ⟨fun _ h => nomatch h⟩
instance : Deq Str := ⟨PyData.strOk, 0, fun x h => by simp only [enc, PyData.canLay0]; exact h, fun _ => by simp [enc, PyData.depth], fun x y => by simp [enc, PyData.eqv]; exact Bool.beq_eq_decide_eq x y⟩
instance : NN Str := ⟨fun _ h => nomatch h⟩
instance {α : Type} [Py α] [DecidableEq α] [Deq α] [NN α] : Deq (Option α) where
  shp o := match o with | none => true | some x => shp x
  dep := Deq.dep α
  lay o h := match o, h with
    | none, _ => by simp [enc, PyData.canLay0]
    | some x, h => Deq.lay x h
  dpt o := match o with
    | none => by simp [enc, PyData.depth]
    | some x => Deq.dpt x
  eqv x y := match x, y with
    | none, none => by simp [enc, PyData.eqv]
    | none, some y => by
      have h := NN.nn y
      have e : decide ((none : Option α) = some y) = false := by simp
      rw [e]
      show PyData.eqv .none (enc y) = false
      cases q : (enc y : PyData) <;> first | exact absurd q h | simp [PyData.eqv]
    | some x, none => by
      have h := NN.nn x
      have e : decide (some x = (none : Option α)) = false := by simp
      rw [e]
      show PyData.eqv (enc x) .none = false
      cases q : (enc x : PyData) <;> first | exact absurd q h | simp [PyData.eqv]
    | some x, some y => by
      show PyData.eqv (enc x) (enc y) = _
      rw [Deq.eqv]
      simp
theorem eqvAll2 {α β : Type} [Py α] [Py β] [DecidableEq α] [DecidableEq β] [Deq α] [Deq β] (x y : α) (a b : β) : PyData.eqvAll [enc x, enc a] [enc y, enc b] = (decide (x = y) && decide (a = b)) := by
  simp [PyData.eqvAll, Deq.eqv]
instance {α β : Type} [Py α] [Py β] [DecidableEq α] [DecidableEq β] [Deq α] [Deq β] : Deq (α × β) where
  shp p := shp p.1 && shp p.2
  dep := max (Deq.dep α) (Deq.dep β) + 1
  lay p h := by
    simp only [Bool.and_eq_true] at h
    simp [enc, PyData.canLay0, PyData.canLayAll0, Deq.lay p.1 h.1, Deq.lay p.2 h.2]
  dpt p := by
    have h1 := Deq.dpt p.1
    have h2 := Deq.dpt p.2
    simp only [enc, PyData.depth, PyData.depthAll] at *
    omega
  eqv p q := by
    obtain ⟨a, b⟩ := p
    obtain ⟨c, d⟩ := q
    simp [enc, PyData.eqv, PyData.eqvAll, Deq.eqv, Bool.decide_and]
instance {α β : Type} [Py α] [Py β] : NN (α × β) := ⟨fun _ h => nomatch h⟩
instance {α β γ : Type} [Py α] [Py β] [Py γ] [DecidableEq α] [DecidableEq β] [DecidableEq γ] [Deq α] [Deq β] [Deq γ] : Deq (T3 α β γ) where
  shp p := shp p.a && shp p.b && shp p.c
  dep := max (Deq.dep α) (max (Deq.dep β) (Deq.dep γ)) + 1
  lay p h := by
    simp only [Bool.and_eq_true] at h
    simp [enc, PyData.canLay0, PyData.canLayAll0, Deq.lay p.a h.1.1, Deq.lay p.b h.1.2, Deq.lay p.c h.2]
  dpt p := by
    have h1 := Deq.dpt p.a
    have h2 := Deq.dpt p.b
    have h3 := Deq.dpt p.c
    simp only [enc, PyData.depth, PyData.depthAll] at *
    omega
  eqv p q := by
    obtain ⟨a, b, e⟩ := p
    obtain ⟨c, d, f⟩ := q
    simp [enc, PyData.eqv, PyData.eqvAll, Deq.eqv, Bool.decide_and]
instance {α β γ : Type} [Py α] [Py β] [Py γ] : NN (T3 α β γ) := ⟨fun _ h => nomatch h⟩
instance {α β γ δ : Type} [Py α] [Py β] [Py γ] [Py δ] [DecidableEq α] [DecidableEq β] [DecidableEq γ] [DecidableEq δ] [Deq α] [Deq β] [Deq γ] [Deq δ] : Deq (T4 α β γ δ) where
  shp p := shp p.a && shp p.b && shp p.c && shp p.d
  dep := max (Deq.dep α) (max (Deq.dep β) (max (Deq.dep γ) (Deq.dep δ))) + 1
  lay p h := by
    simp only [Bool.and_eq_true] at h
    simp [enc, PyData.canLay0, PyData.canLayAll0, Deq.lay p.a h.1.1.1, Deq.lay p.b h.1.1.2, Deq.lay p.c h.1.2, Deq.lay p.d h.2]
  dpt p := by
    have h1 := Deq.dpt p.a
    have h2 := Deq.dpt p.b
    have h3 := Deq.dpt p.c
    have h4 := Deq.dpt p.d
    simp only [enc, PyData.depth, PyData.depthAll] at *
    omega
  eqv p q := by
    obtain ⟨a, b, e, k⟩ := p
    obtain ⟨c, d, f, l⟩ := q
    simp [enc, PyData.eqv, PyData.eqvAll, Deq.eqv, Bool.decide_and]
instance {α β γ δ : Type} [Py α] [Py β] [Py γ] [Py δ] : NN (T4 α β γ δ) := ⟨fun _ h => nomatch h⟩
theorem canLayAll_map {α : Type} [Py α] [DecidableEq α] [Deq α] : ∀ xs : List α, xs.all shp = true → PyData.canLayAll0 (xs.map enc) = true
  | [], _ => by simp [PyData.canLayAll0]
  | x :: xs, h => by
    simp only [List.all_cons, Bool.and_eq_true] at h
    simp [PyData.canLayAll0, Deq.lay x h.1, canLayAll_map xs h.2]
theorem depthAll_map {α : Type} [Py α] [DecidableEq α] [Deq α] : ∀ xs : List α, PyData.depthAll (xs.map enc) ≤ Deq.dep α
  | [] => by simp [PyData.depthAll]
  | x :: xs => by
    have h1 := Deq.dpt x
    have h2 := depthAll_map xs
    simp only [List.map_cons, PyData.depthAll]
    omega
theorem eqvAll_map {α : Type} [Py α] [DecidableEq α] [Deq α] : ∀ xs ys : List α, PyData.eqvAll (xs.map enc) (ys.map enc) = decide (xs = ys)
  | [], [] => by simp [PyData.eqvAll]
  | [], y :: ys => by simp [PyData.eqvAll]
  | x :: xs, [] => by simp [PyData.eqvAll]
  | x :: xs, y :: ys => by simp [PyData.eqvAll, Deq.eqv, eqvAll_map xs ys, Bool.decide_and]
instance {α : Type} [Py α] [DecidableEq α] [Deq α] : Deq (List α) where
  shp xs := xs.all shp
  dep := Deq.dep α + 1
  lay xs h := by simp [enc, PyData.canLay0, canLayAll_map xs h]
  dpt xs := by
    have := depthAll_map xs
    simp only [enc, PyData.depth]
    omega
  eqv xs ys := by
    simp only [enc, PyData.eqv]
    exact eqvAll_map xs ys
instance {α : Type} [Py α] : NN (List α) := ⟨fun _ h => nomatch h⟩
instance {α : Type} [Py α] [DecidableEq α] [Deq α] : Deq (Ls α) where
  shp xs := xs.l.all shp
  dep := Deq.dep α + 1
  lay xs h := by simp [enc, PyData.canLay0, canLayAll_map xs.l h]
  dpt xs := by
    have := depthAll_map xs.l
    simp only [enc, PyData.depth]
    omega
  eqv xs ys := by
    obtain ⟨xs⟩ := xs
    obtain ⟨ys⟩ := ys
    simp only [enc, PyData.eqv]
    rw [eqvAll_map xs ys]
    simp
instance {α : Type} [Py α] : NN (Ls α) := ⟨fun _ h => nomatch h⟩

section
variable {K : PySem.W.Frag} {A : Addr → Prop} {H : Hp}
mutual
theorem Rp.dp : ∀ {v : V} {d : PyData}, d.canLay0 = true → Rp K A H v d → Dp K H v d
  | _, _, _, .non => .non
  | _, _, _, .bl b => .bl b
  | _, _, _, .int i => .int i
  | _, _, _, .str i => .str i
  | _, _, i, .tup z h t => .tup h (RpAll.dp (by simpa [PyData.canLay0] using i) t)
  | _, _, i, .obj n (.lst z h t) => .lst (.of h) (RpAll.dp (by simpa [PyData.canLay0] using i) t)
  | _, _, i, .obj n (.dK _ _ _) => by simp [PyData.canLay0] at i
  | _, _, i, .obj n (.dT _ _ _) => by simp [PyData.canLay0] at i
theorem RpAll.dp : ∀ {v : List V} {d : List PyData}, PyData.canLayAll0 d = true → RpAll K A H v d → DpAll K H v d
  | _, _, _, .nil => .nil
  | _, _, i, .cons h t => by
    simp only [PyData.canLayAll0, Bool.and_eq_true] at i
    exact .cons (Rp.dp i.1 h) (RpAll.dp i.2 t)
end
end
/-- x == y -/
def eqM {α : Type} [Py α] [DecidableEq α] [Deq α] (x y : α) : Option Bool := if shp x = true ∧ shp y = true then some (decide (x = y)) else none
def neM {α : Type} [Py α] [DecidableEq α] [Deq α] (x y : α) : Option Bool := if shp x = true ∧ shp y = true then some (!decide (x = y)) else none
def mulM (i j : Int) : Option Int := if i.natAbs < 2 ^ 9000 ∧ j.natAbs < 2 ^ 9000 then some (i * j) else none
def divM (i j : Int) : Option Int := if j ≠ 0 ∧ j.natAbs < 1073741824 then some (i.fdiv j) else none
def divW (i j : Int) : Option Int := if 0 < j ∧ j.natAbs < 2 ^ 9000 then some (i / j) else none
def modM (i j : Int) : Option Int := if j ≠ 0 then some (i.fmod j) else none

section
variable {S : Type} {m : Type → Type} [Monad m] [MR m S] {γ α β : Type} [Py α] [Py β] {X : Cx} {W : Wd S} {R : γ → Sg → Hp → Prop} {e a b c : Expr} {es rest : List Expr} {pos : Pos}
theorem E_add (sb : Stb W R) {f k : γ → m Int} (ha : EV X W R a f) (hb : EV X W R b k) : EV X W R (.BinOp a .Add b pos) (fun g => f g >>= fun i => k g >>= fun j => pure (i + j)) := E_opI0 (fun {_} => op_add) sb ha hb
theorem E_sub (sb : Stb W R) {f k : γ → m Int} (ha : EV X W R a f) (hb : EV X W R b k) : EV X W R (.BinOp a .Sub b pos) (fun g => f g >>= fun i => k g >>= fun j => pure (i - j)) := E_opI0 (fun {_} => op_sub) sb ha hb
theorem E_mul (sb : Stb W R) {f k : γ → m Int} (ha : EV X W R a f) (hb : EV X W R b k) : EV X W R (.BinOp a .Mult b pos) (fun g => f g >>= fun i => k g >>= fun j => MR.lift (mulM i j)) :=
  E_opI mulM (fun {_} => op_mulW) (fun i j z h => by
    unfold mulM at h
    split at h
    · rename_i q
      cases h
      exact ⟨wide_mul q.1 q.2 (by decide) (by decide) (by decide), rfl⟩
    · cases h) sb ha hb
theorem E_div (sb : Stb W R) {f k : γ → m Int} (ha : EV X W R a f) (hb : EV X W R b k) : EV X W R (.BinOp a .FloorDiv b pos) (fun g => f g >>= fun i => k g >>= fun j => MR.lift (divM i j)) :=
  E_opI divM (fun {_} => op_fdivN) (fun i j z h => by
    unfold divM at h
    split at h
    · rename_i q
      cases h
      exact ⟨q, rfl⟩
    · cases h) sb ha hb
theorem E_divW (sb : Stb W R) {f k : γ → m Int} (ha : EV X W R a f) (hb : EV X W R b k) : EV X W R (.BinOp a .FloorDiv b pos) (fun g => f g >>= fun i => k g >>= fun j => MR.lift (divW i j)) :=
  E_opI divW (fun {_} => op_fdivW) (fun i j z h => by
    unfold divW at h
    split at h
    · rename_i q
      cases h
      exact ⟨wide_div q.1 q.2 (by decide) (by decide), rfl⟩
    · cases h) sb ha hb
theorem E_mod (sb : Stb W R) {f k : γ → m Int} (ha : EV X W R a f) (hb : EV X W R b k) : EV X W R (.BinOp a .Mod b pos) (fun g => f g >>= fun i => k g >>= fun j => MR.lift (modM i j)) :=
  E_opI modM (fun {_} => op_modN) (fun i j z h => by
    unfold modM at h
    split at h
    · rename_i q
      cases h
      exact ⟨q, rfl⟩
    · cases h) sb ha hb
theorem E_neg {f : γ → m Int} (ha : EV X W R a f) : EV X W R (.UnaryOp .USub a pos) (fun g => f g >>= fun i => pure (-i)) := fun g s x s' r σ H hR hW Q q => by
  obtain ⟨i, s1, h1, r⟩ := run_bind_some r
  obtain ⟨rfl, rfl⟩ := run_pure_some r
  exact wE.of (pe_un un_neg (peW a)) (ha g s i _ h1 σ H hR hW _ fun v H' g1 w1 p => ⟨i, p.int_inv, q _ H' g1 w1 (.int _)⟩)
/-- a comparison -/
def CV (X : Cx) (W : Wd S) (R : γ → Sg → Hp → Prop) (op : CmpOp) (a b : Expr) (f : γ → m Bool) : Prop := ∃ r : R2, OpR X (compareOp op) r ∧
  ∀ g s x s', MR.run (f g) s = some (x, s') → ∀ σ H, R g σ H → W.WI s H → ∀ Q : VK, (∀ H', gr W.Av H H' → W.WI s' H' → Q (.bl x) H') → tOp r (wE X a) (wE X b) σ H Q
theorem E_cmp {op : CmpOp} {f : γ → m Bool} (h : CV X W R op a b f) (nb : behindInMarks op b = false := by first | exact nobehind _ (by decide) (by decide) | rfl) : EV X W R (.Compare a [op] [b] pos) f := fun g s x s' r σ H hR hW Q q => by
  obtain ⟨r2, ho, h⟩ := h
  exact wE.of (pe_cmpR ho (peW a) (peW b) nb) (h g s x s' r σ H hR hW Q fun H' g1 w1 => q _ H' g1 w1 (.bl _))
theorem T_cmp {op : CmpOp} {f : γ → m Bool} (h : CV X W R op a b f) (nb : behindInMarks op b = false := by first | exact nobehind _ (by decide) (by decide) | rfl) : TV X W R (.Compare a [op] [b] pos) f := fun g s x s' r σ H hR hW Q q => by
  obtain ⟨r2, ho, h⟩ := h
  exact wT.of (pt_cmpR ho (peW a) (peW b) nb) (h g s x s' r σ H hR hW _ fun H' g1 w1 => ⟨x, rfl, q H' g1 w1⟩)
/-- .. of ints -/
theorem C_int {op : CmpOp} (G : Int → Int → Bool) (ho : OpR X (compareOp op) (rI0 fun i j => .bl (G i j)))
    (sb : Stb W R) {f k : γ → m Int} (ha : EV X W R a f) (hb : EV X W R b k) : CV X W R op a b (fun g => f g >>= fun i => k g >>= fun j => pure (G i j)) := ⟨_, ho, fun g s x s' r σ H hR hW Q q => by
  obtain ⟨i, s1, h1, r⟩ := run_bind_some r
  obtain ⟨j, s2, h2, r⟩ := run_bind_some r
  obtain ⟨rfl, rfl⟩ := run_pure_some r
  exact EV.two sb ha hb h1 h2 hR hW fun v u H' g1 w1 p1 p2 => ⟨i, j, p1.int_inv, p2.int_inv, q H' g1 w1⟩⟩
theorem C_lt (sb : Stb W R) {f k : γ → m Int} (ha : EV X W R a f) (hb : EV X W R b k) : CV X W R .Lt a b (fun g => f g >>= fun i => k g >>= fun j => pure (decide (i < j))) := C_int _ op_lt sb ha hb
theorem C_le (sb : Stb W R) {f k : γ → m Int} (ha : EV X W R a f) (hb : EV X W R b k) : CV X W R .LtE a b (fun g => f g >>= fun i => k g >>= fun j => pure (decide (i ≤ j))) := C_int _ op_le sb ha hb
theorem C_gt (sb : Stb W R) {f k : γ → m Int} (ha : EV X W R a f) (hb : EV X W R b k) : CV X W R .Gt a b (fun g => f g >>= fun i => k g >>= fun j => pure (decide (j < i))) := C_int (fun i j => decide (j < i)) op_gt sb ha hb
theorem C_ge (sb : Stb W R) {f k : γ → m Int} (ha : EV X W R a f) (hb : EV X W R b k) : CV X W R .GtE a b (fun g => f g >>= fun i => k g >>= fun j => pure (decide (j ≤ i))) := C_int (fun i j => decide (j ≤ i)) op_ge sb ha hb
theorem shaped_of [DecidableEq α] [Deq α] (hd : Deq.dep α ≤ 64) (x : α) (h : shp x = true) : SeqAt.shaped (enc x) = true := by
  unfold SeqAt.shaped
  rw [Deq.lay x h]
  have := Deq.dpt x
  simp
  omega
theorem C_eq [DecidableEq α] [Deq α] (hu : X.A.units + 64 < cLine) (sb : Stb W R) {f k : γ → m α} (ha : EV X W R a f) (hb : EV X W R b k) (hd : Deq.dep α ≤ 64 := by decide) : CV X W R .Eq a b (fun g => f g >>= fun i => k g >>= fun j => MR.lift (eqM i j)) := ⟨_, op_eqD hu, fun g s x s' r σ H hR hW Q q => by
  obtain ⟨i, s1, h1, r⟩ := run_bind_some r
  obtain ⟨j, s2, h2, r⟩ := run_bind_some r
  obtain ⟨h3, rfl⟩ := run_lift_some r
  unfold eqM at h3
  split at h3
  · rename_i c1
    cases h3
    exact EV.two sb ha hb h1 h2 hR hW fun v u H' g1 w1 p1 p2 =>
      ⟨enc i, enc j, p1.dp (Deq.lay i c1.1), p2.dp (Deq.lay j c1.2), shaped_of hd i c1.1, shaped_of hd j c1.2, by rw [Deq.eqv]; exact q H' g1 w1⟩
  · cases h3⟩
theorem C_ne [DecidableEq α] [Deq α] (hu : X.A.units + 64 < cLine) (sb : Stb W R) {f k : γ → m α} (ha : EV X W R a f) (hb : EV X W R b k) (hd : Deq.dep α ≤ 64 := by decide) : CV X W R .NotEq a b (fun g => f g >>= fun i => k g >>= fun j => MR.lift (neM i j)) := ⟨_, op_neD hu, fun g s x s' r σ H hR hW Q q => by
  obtain ⟨i, s1, h1, r⟩ := run_bind_some r
  obtain ⟨j, s2, h2, r⟩ := run_bind_some r
  obtain ⟨h3, rfl⟩ := run_lift_some r
  unfold neM at h3
  split at h3
  · rename_i c1
    cases h3
    exact EV.two sb ha hb h1 h2 hR hW fun v u H' g1 w1 p1 p2 =>
      ⟨enc i, enc j, p1.dp (Deq.lay i c1.1), p2.dp (Deq.lay j c1.2), shaped_of hd i c1.1, shaped_of hd j c1.2, by rw [Deq.eqv]; exact q H' g1 w1⟩
  · cases h3⟩
theorem Rp.isNon [NN α] {K : PySem.W.Frag} {A : Addr → Prop} {H : Hp} {v : V} {o : Option α} (p : Rp K A H v (enc o)) : decide (v = .non) = o.isNone := by
  cases o with
  | none => rw [p.non_inv]; rfl
  | some x =>
    have h := NN.nn x
    have p : Rp K A H v (enc x) := p
    generalize (enc x : PyData) = d at p h
    cases p with
    | non => exact absurd rfl h
    | _ => rfl
theorem C_isN [NN α] (sb : Stb W R) {f : γ → m (Option α)} {j : Nat} {p' : Pos} (ha : EV X W R a f) : CV X W R .Is a (.Constant .none j p') (fun g => f g >>= fun i => pure i.isNone) := ⟨_, op_isN, fun g s x s' r σ H hR hW Q q => by
  obtain ⟨i, s1, h1, r⟩ := run_bind_some r
  obtain ⟨rfl, rfl⟩ := run_pure_some r
  exact ha g s i _ h1 σ H hR hW _ fun v H' g1 w1 p => wE.of pe_non ⟨rfl, by rw [p.isNon]; exact q H' g1 w1⟩⟩
theorem C_notN [NN α] (sb : Stb W R) {f : γ → m (Option α)} {j : Nat} {p' : Pos} (ha : EV X W R a f) : CV X W R .IsNot a (.Constant .none j p') (fun g => f g >>= fun i => pure i.isSome) := ⟨_, op_notN, fun g s x s' r σ H hR hW Q q => by
  obtain ⟨i, s1, h1, r⟩ := run_bind_some r
  obtain ⟨rfl, rfl⟩ := run_pure_some r
  exact ha g s i _ h1 σ H hR hW _ fun v H' g1 w1 p => wE.of pe_non ⟨rfl, by
    rw [p.isNon]
    have : (!i.isNone) = i.isSome := by cases i <;> rfl
    rw [this]
    exact q H' g1 w1⟩⟩
/-- a op1 b op2 c, of ints -/
theorem E_chain {op op' : CmpOp} {G G' : Int → Int → Bool} (ho : OpR X (compareOp op) (rI0 fun i j => .bl (G i j))) (ho' : OpR X (compareOp op') (rI0 fun i j => .bl (G' i j)))
    (sb : Stb W R) {f k l : γ → m Int} (ha : EV X W R a f) (hb : EV X W R b k) (hc : EV X W R c l) (hm : lastMarks [op, op'] [b, c] = false := by with_unfolding_all rfl) :
    EV X W R (.Compare a [op, op'] [b, c] pos) (fun g => f g >>= fun i => k g >>= fun j => if G i j = true then l g >>= fun n => pure (G' j n) else pure false) := fun g s x s' r σ H hR hW Q q => by
  obtain ⟨i, s1, h1, r⟩ := run_bind_some r
  obtain ⟨j, s2, h2, r⟩ := run_bind_some r
  refine wE.of (pe_chain ho ho' (peW a) (peW b) (peW c) hm) (EV.two sb ha hb h1 h2 hR hW fun v u H' g1 w1 p1 p2 => ⟨i, j, p1.int_inv, p2.int_inv, _, rfl, ?_⟩)
  cases hG : G i j with
  | false =>
    rw [hG] at r
    simp only [Bool.false_eq_true, if_false] at r ⊢
    obtain ⟨rfl, rfl⟩ := run_pure_some r
    exact q _ H' g1 w1 (.bl _)
  | true =>
    rw [hG] at r
    simp only [if_true] at r ⊢
    obtain ⟨n, s3, h3, r⟩ := run_bind_some r
    obtain ⟨rfl, rfl⟩ := run_pure_some r
    exact hc g s2 n _ h3 σ H' (sb g σ H H' hR g1) w1 _ fun w H2 g2 w2 p3 => ⟨j, n, (p2.mono g2).int_inv, p3.int_inv, q _ H2 (g1.trans g2) w2 (.bl _)⟩
theorem T_chain {op op' : CmpOp} {G G' : Int → Int → Bool} (ho : OpR X (compareOp op) (rI0 fun i j => .bl (G i j))) (ho' : OpR X (compareOp op') (rI0 fun i j => .bl (G' i j)))
    (sb : Stb W R) {f k l : γ → m Int} (ha : EV X W R a f) (hb : EV X W R b k) (hc : EV X W R c l) (hm : lastMarks [op, op'] [b, c] = false := by with_unfolding_all rfl) :
    TV X W R (.Compare a [op, op'] [b, c] pos) (fun g => f g >>= fun i => k g >>= fun j => if G i j = true then l g >>= fun n => pure (G' j n) else pure false) := fun g s x s' r σ H hR hW Q q => by
  obtain ⟨i, s1, h1, r⟩ := run_bind_some r
  obtain ⟨j, s2, h2, r⟩ := run_bind_some r
  refine wT.of (pt_chain ho ho' (peW a) (peW b) (peW c) hm) (EV.two sb ha hb h1 h2 hR hW fun v u H' g1 w1 p1 p2 => ⟨i, j, p1.int_inv, p2.int_inv, _, rfl, ?_⟩)
  cases hG : G i j with
  | false =>
    rw [hG] at r
    simp only [Bool.false_eq_true, if_false] at r ⊢
    obtain ⟨rfl, rfl⟩ := run_pure_some r
    exact ⟨_, rfl, q H' g1 w1⟩
  | true =>
    rw [hG] at r
    simp only [if_true] at r ⊢
    obtain ⟨n, s3, h3, r⟩ := run_bind_some r
    obtain ⟨rfl, rfl⟩ := run_pure_some r
    exact hc g s2 n _ h3 σ H' (sb g σ H H' hR g1) w1 _ fun w H2 g2 w2 p3 => ⟨j, n, (p2.mono g2).int_inv, p3.int_inv, _, rfl, q H2 (g1.trans g2) w2⟩

/-! and, or, not, if -/
theorem T_val {f : γ → m Bool} (h : EV X W R e f) (he : ∀ whole, isTrue e X.env whole = (do let v ← whole; standAt e.pos; holding [v] (truthy v)) := by intro _; rfl) : TV X W R e f := fun g s x s' r σ H hR hW Q q =>
  wT.of (pt_val (peW e) he) (h g s x s' r σ H hR hW _ fun v H' g1 w1 p => ⟨x, p.bl_inv, q H' g1 w1⟩)
theorem T_not {f : γ → m Bool} (h : TV X W R a f) : TV X W R (.UnaryOp .Not a pos) (fun g => f g >>= fun x => pure (!x)) := fun g s x s' r σ H hR hW Q q => by
  obtain ⟨i, s1, h1, r⟩ := run_bind_some r
  obtain ⟨rfl, rfl⟩ := run_pure_some r
  exact wT.of (pt_not (ptW a)) (h g s i _ h1 σ H hR hW _ fun H' g1 w1 => q H' g1 w1)
theorem E_not {f : γ → m Bool} (h : EV X W R a f) : EV X W R (.UnaryOp .Not a pos) (fun g => f g >>= fun x => pure (!x)) := fun g s x s' r σ H hR hW Q q => by
  obtain ⟨i, s1, h1, r⟩ := run_bind_some r
  obtain ⟨rfl, rfl⟩ := run_pure_some r
  exact wE.of (pe_not (peW a)) (h g s i _ h1 σ H hR hW _ fun v H' g1 w1 p => ⟨i, p.bl_inv, q _ H' g1 w1 (.bl _)⟩)
theorem E_bone {op} {f : γ → m Bool} (h : EV X W R a f) : EV X W R (.BoolOp op [a] pos) f := fun g s x s' r σ H hR hW Q q => wE.of (pe_one (peW a)) (h g s x s' r σ H hR hW Q q)
theorem E_and (sb : Stb W R) {f k : γ → m Bool} (h : EV X W R a f) (hr : EV X W R (.BoolOp .And (b :: rest) pos) k) : EV X W R (.BoolOp .And (a :: b :: rest) pos) (fun g => f g >>= fun x => if x = true then k g else pure false) := fun g s x s' r σ H hR hW Q q => by
  obtain ⟨i, s1, h1, r⟩ := run_bind_some r
  refine wE.of (pe_and (peW a) (peW _)) (h g s i _ h1 σ H hR hW _ fun v H' g1 w1 p => ⟨i, p.bl_inv, ?_⟩)
  cases i with
  | false =>
    simp only [Bool.false_eq_true, if_false] at r ⊢
    obtain ⟨rfl, rfl⟩ := run_pure_some r
    exact q _ H' g1 w1 (.bl _)
  | true =>
    simp only [if_true] at r ⊢
    exact hr g s1 x s' r σ H' (sb g σ H H' hR g1) w1 _ fun w H2 g2 w2 p3 => q _ H2 (g1.trans g2) w2 p3
theorem E_or (sb : Stb W R) {f k : γ → m Bool} (h : EV X W R a f) (hr : EV X W R (.BoolOp .Or (b :: rest) pos) k) : EV X W R (.BoolOp .Or (a :: b :: rest) pos) (fun g => f g >>= fun x => if x = true then pure true else k g) := fun g s x s' r σ H hR hW Q q => by
  obtain ⟨i, s1, h1, r⟩ := run_bind_some r
  refine wE.of (pe_or (peW a) (peW _)) (h g s i _ h1 σ H hR hW _ fun v H' g1 w1 p => ⟨i, p.bl_inv, ?_⟩)
  cases i with
  | true =>
    simp only [if_true] at r ⊢
    obtain ⟨rfl, rfl⟩ := run_pure_some r
    exact q _ H' g1 w1 (.bl _)
  | false =>
    simp only [Bool.false_eq_true, if_false] at r ⊢
    exact hr g s1 x s' r σ H' (sb g σ H H' hR g1) w1 _ fun w H2 g2 w2 p3 => q _ H2 (g1.trans g2) w2 p3
theorem W_and1 {f : γ → m Bool} (h : TV X W R a f) : TW X W R (.BoolOp .And [a] pos) f := fun g s x s' r σ H hR hW Q q => wW.of (pw_and1 (ptW a)) (h g s x s' r σ H hR hW Q q)
theorem W_or1 {f : γ → m Bool} (h : TV X W R a f) : TW X W R (.BoolOp .Or [a] pos) f := fun g s x s' r σ H hR hW Q q => wW.of (pw_or1 (ptW a)) (h g s x s' r σ H hR hW Q q)
theorem W_and (sb : Stb W R) {f k : γ → m Bool} (h : TV X W R a f) (hr : TW X W R (.BoolOp .And (b :: rest) pos) k) : TW X W R (.BoolOp .And (a :: b :: rest) pos) (fun g => f g >>= fun x => if x = true then k g else pure false) := fun g s x s' r σ H hR hW Q q => by
  obtain ⟨i, s1, h1, r⟩ := run_bind_some r
  refine wW.of (pw_and (ptW a) (pwW _)) (h g s i _ h1 σ H hR hW _ fun H' g1 w1 => ?_)
  cases i with
  | false =>
    simp only [Bool.false_eq_true, if_false] at r ⊢
    obtain ⟨rfl, rfl⟩ := run_pure_some r
    exact q H' g1 w1
  | true =>
    simp only [if_true] at r ⊢
    exact hr g s1 x s' r σ H' (sb g σ H H' hR g1) w1 _ fun H2 g2 w2 => q H2 (g1.trans g2) w2
theorem W_or (sb : Stb W R) {f k : γ → m Bool} (h : TV X W R a f) (hr : TW X W R (.BoolOp .Or (b :: rest) pos) k) : TW X W R (.BoolOp .Or (a :: b :: rest) pos) (fun g => f g >>= fun x => if x = true then pure true else k g) := fun g s x s' r σ H hR hW Q q => by
  obtain ⟨i, s1, h1, r⟩ := run_bind_some r
  refine wW.of (pw_or (ptW a) (pwW _)) (h g s i _ h1 σ H hR hW _ fun H' g1 w1 => ?_)
  cases i with
  | true =>
    simp only [if_true] at r ⊢
    obtain ⟨rfl, rfl⟩ := run_pure_some r
    exact q H' g1 w1
  | false =>
    simp only [Bool.false_eq_true, if_false] at r ⊢
    exact hr g s1 x s' r σ H' (sb g σ H H' hR g1) w1 _ fun H2 g2 w2 => q H2 (g1.trans g2) w2
theorem E_ifE (sb : Stb W R) {t : γ → m Bool} {f k : γ → m α} (hc : TV X W R c t) (ha : EV X W R a f) (hb : EV X W R b k) : EV X W R (.IfExp c a b pos) (fun g => t g >>= fun x => if x = true then f g else k g) := fun g s x s' r σ H hR hW Q q => by
  obtain ⟨i, s1, h1, r⟩ := run_bind_some r
  refine wE.of (pe_ifExp (ptW c) (peW a) (peW b)) (hc g s i _ h1 σ H hR hW _ fun H' g1 w1 => ?_)
  cases i with
  | true =>
    simp only [if_true] at r ⊢
    exact ha g s1 x s' r σ H' (sb g σ H H' hR g1) w1 _ fun w H2 g2 w2 p3 => q _ H2 (g1.trans g2) w2 p3
  | false =>
    simp only [Bool.false_eq_true, if_false] at r ⊢
    exact hb g s1 x s' r σ H' (sb g σ H H' hR g1) w1 _ fun w H2 g2 w2 p3 => q _ H2 (g1.trans g2) w2 p3
end
end TC

namespace TC
open PySem PySem.Spec PyProof.Rows L2
open Py (enc)

def NS (e : Expr) : Prop := ∀ (env : Env) (es : List Expr), starEach (e :: es) env = (false, eval e env) :: starEach es env
theorem backTo_any (pos : Pos) : ∀ l : List (Bool × Sem Value), (backTo pos l).any (·.1) = l.any (·.1) := by
  intro l
  unfold backTo
  induction l with
  | nil => rfl
  | cons x r ih => simp_all [List.any_cons]
/-- what a def promises, over data -/
def spD (K : PySem.W.Frag) (n : Nat) (M : List PyData → PyData → Prop) : Sp := fun vs H Q _ => vs.length = n ∧ ∃ ds d, RpAll K (fun _ => False) H vs ds ∧ M ds d ∧ ∀ v H', Same H H' → Rp K (fun a => H a ≠ none) H' v d → Q v H'
structure Dfn (P : Program) (w : World) (K : PySem.W.Frag) (mg : Str → Option Value) (base : Heap) (A : Around) (x : Str) (n : Nat) (M : List PyData → PyData → Prop) : Prop where
  ex : ∃ k f fd ps, FnOk P w K mg base CX0 k f fd ps (spD K n M) ∧ Room k A ∧ mg x = some (.ref f) ∧ PySem.W.keepIn K (.ref f) = true ∧ Binds K fd ps []

section
variable {S : Type} {m : Type → Type} [Monad m] [MR m S] {γ α β : Type} [Py α] [Py β] {X : Cx} {W : Wd S} {R : γ → Sg → Hp → Prop} {e a b c : Expr} {es rest : List Expr} {pos : Pos}
theorem A_nil : AVs X W R [] (fun _ => (pure [] : m (List PyData))) := fun g s x s' r σ H hR hW Q q => by
  obtain ⟨rfl, rfl⟩ := run_pure_some r
  exact wA.of pa_nil (q [] H (.refl _ _) hW .nil)
theorem NSs_any : ∀ {es : List Expr}, (∀ e ∈ es, NS e) → ∀ env, (starEach es env).any (·.1) = false
  | [], _, env => by unfold starEach; rfl
  | e :: es, h, env => by
    rw [h e List.mem_cons_self env es]
    have := NSs_any (es := es) (fun e he => h e (List.mem_cons_of_mem _ he)) env
    simp [this]
theorem A_cons {f : γ → m α} {k : γ → m (List PyData)} (sb : Stb W R) (n1 : NS e) (ha : EV X W R e f) (hr : AVs X W R es k) :
    AVs X W R (e :: es) (fun g => f g >>= fun x => k g >>= fun ds => pure (enc x :: ds)) := fun g s x s' r σ H hR hW Q q => by
  obtain ⟨i, s1, h1, r⟩ := run_bind_some r
  obtain ⟨ds, s2, h2, r⟩ := run_bind_some r
  obtain ⟨rfl, rfl⟩ := run_pure_some r
  exact wA.of (pa_cons (peW e) (paW es) (n1 _ _)) (ha g s i s1 h1 σ H hR hW _ fun v H1 g1 w1 p1 => hr g s1 ds _ h2 σ H1 (sb g σ H H1 hR g1) w1 _ fun vs H2 g2 w2 p2 =>
    q _ H2 (g1.trans g2) w2 (.cons (p1.mono g2) p2))
/-- a call, over data -/
theorem call_run {x : Str} {p : Pos} {n : Nat} {M : List PyData → PyData → Prop} (D : Dfn X.prog X.w X.K X.mg X.base X.A x n M) (hg : Gl X x) (hdb : (x == ("__debug__" : Str)) = false) (ns : ∀ a ∈ e :: es, NS a)
    {k : γ → m (List PyData)} (hA : AVs X W R (e :: es) k) {g : γ} {s s1 : S} {ds : List PyData} {d : PyData} (h1 : MR.run (k g) s = some (ds, s1)) (hl : ds.length = n) (hM : M ds d) {σ : Sg} {H : Hp} (hR : R g σ H) (hW : W.WI s H)
    {Q : VK} (q : ∀ v H', gr W.Av H H' → W.WI s1 H' → Rp X.K (fun a => H a ≠ none) H' v d → Q v H') : wE X (.Call (.Name x p) (e :: es) [] pos) σ H Q := by
  obtain ⟨lv, f, fd, ps, F, hr, hm, hk, hb⟩ := D.ex
  refine wE.of (pe_call F hr hg hm hk hb (dvs := []) .nil pass0 (paW _) hdb (ns e List.mem_cons_self _ _) (by
    rw [backTo_any]; exact NSs_any (fun a ha => ns a (List.mem_cons_of_mem _ ha)) _)) ?_
  refine hA g s ds s1 h1 σ H hR hW _ fun vs H1 g1 w1 p1 => ?_
  refine ⟨by rw [List.append_nil, p1.length, hl], ds, d, by rw [List.append_nil]; exact p1.chg fun _ z _ => z.elim, hM, fun v H2 sm p2 => ?_⟩
  exact q v H2 (g1.trans (.of_same sm)) (W.keep s1 H1 H2 w1 fun a o _ z => sm a o z) (p2.weak fun a z => g1.ex a z)
theorem call_run0 {x : Str} {p : Pos} {M : List PyData → PyData → Prop} (D : Dfn X.prog X.w X.K X.mg X.base X.A x 0 M) (hg : Gl X x) (hdb : (x == ("__debug__" : Str)) = false)
    {s : S} {d : PyData} (hM : M [] d) {σ : Sg} {H : Hp} (hW : W.WI s H)
    {Q : VK} (q : ∀ v H', gr W.Av H H' → W.WI s H' → Rp X.K (fun a => H a ≠ none) H' v d → Q v H') : wE X (.Call (.Name x p) [] [] pos) σ H Q := by
  obtain ⟨lv, f, fd, ps, F, hr, hm, hk, hb⟩ := D.ex
  refine wE.of (pe_call0 F hr hg hm hk hb (dvs := []) .nil pass0 hdb) ?_
  refine ⟨rfl, [], d, .nil, hM, fun v H2 sm p2 => ?_⟩
  exact q v H2 (.of_same sm) (W.keep s H H2 hW fun a o _ z => sm a o z) p2
end

/-! 1 -/
def M1 {τ0 ρ : Type} [Py τ0] [Py ρ] (f : τ0 → Option ρ) : List PyData → PyData → Prop := fun ds d => ∃ x0, ds = [enc x0] ∧ ∃ r, f x0 = some r ∧ d = enc r
section
variable {S : Type} {m : Type → Type} [Monad m] [MR m S] {γ τ0 ρ : Type} [Py τ0] [Py ρ] {X : Cx} {W : Wd S} {R : γ → Sg → Hp → Prop} {a0 : Expr} {pos p : Pos}
theorem A_1 {f0 : γ → m τ0} (sb : Stb W R) (n0 : NS a0) (h0 : EV X W R a0 f0) : AVs X W R [a0] (fun g => f0 g >>= fun x0 => pure [enc x0]) := by
  have h := A_cons sb n0 h0 (A_nil (X := X) (W := W) (R := R) (m := m))
  intro g s x s' r
  refine h g s x s' ?_
  simp only [MR.run_bind, MR.run_pure] at r ⊢
  rw [← r]
  simp [MR.run_bind, MR.run_pure, Option.bind_assoc, Function.comp_def]
theorem E_call1 {fn : τ0 → Option ρ} {x : Str} {f0 : γ → m τ0} (D : Dfn X.prog X.w X.K X.mg X.base X.A x 1 (M1 fn)) (hg : Gl X x) (hdb : (x == ("__debug__" : Str)) = false) (sb : Stb W R) (n0 : NS a0) (h0 : EV X W R a0 f0) :
    EVf X W R (.Call (.Name x p) [a0] [] pos) (fun g => f0 g >>= fun x0 => MR.lift (fn x0)) := fun g s y s' r σ H hR hW Q q => by
  obtain ⟨z0, s1, e0, r⟩ := run_bind_some r
  obtain ⟨h, rfl⟩ := run_lift_some r
  refine call_run D hg hdb (by simp only [List.mem_cons, List.not_mem_nil, or_false]; rintro a rfl; assumption) (A_1 sb n0 h0) (ds := [enc z0]) (s1 := s1) (d := enc y) (by simp [MR.run_bind, MR.run_pure, e0]) rfl ⟨z0, rfl, y, h, rfl⟩ hR hW q
theorem E_callI1 [Imm ρ] {fn : τ0 → Option ρ} {x : Str} {f0 : γ → m τ0} (D : Dfn X.prog X.w X.K X.mg X.base X.A x 1 (M1 fn)) (hg : Gl X x) (hdb : (x == ("__debug__" : Str)) = false) (sb : Stb W R) (n0 : NS a0) (h0 : EV X W R a0 f0) :
    EV X W R (.Call (.Name x p) [a0] [] pos) (fun g => f0 g >>= fun x0 => MR.lift (fn x0)) := EV.of_f (E_call1 D hg hdb sb n0 h0)
end

/-! 2 -/
def M2 {τ0 τ1 ρ : Type} [Py τ0] [Py τ1] [Py ρ] (f : τ0 → τ1 → Option ρ) : List PyData → PyData → Prop := fun ds d => ∃ x0 x1, ds = [enc x0, enc x1] ∧ ∃ r, f x0 x1 = some r ∧ d = enc r
section
variable {S : Type} {m : Type → Type} [Monad m] [MR m S] {γ τ0 τ1 ρ : Type} [Py τ0] [Py τ1] [Py ρ] {X : Cx} {W : Wd S} {R : γ → Sg → Hp → Prop} {a0 a1 : Expr} {pos p : Pos}
theorem A_2 {f0 : γ → m τ0} {f1 : γ → m τ1} (sb : Stb W R) (n0 : NS a0) (n1 : NS a1) (h0 : EV X W R a0 f0) (h1 : EV X W R a1 f1) : AVs X W R [a0, a1] (fun g => f0 g >>= fun x0 => f1 g >>= fun x1 => pure [enc x0, enc x1]) := by
  have h := A_cons sb n0 h0 (A_cons sb n1 h1 (A_nil (X := X) (W := W) (R := R) (m := m)))
  intro g s x s' r
  refine h g s x s' ?_
  simp only [MR.run_bind, MR.run_pure] at r ⊢
  rw [← r]
  simp [MR.run_bind, MR.run_pure, Option.bind_assoc, Function.comp_def]
theorem E_call2 {fn : τ0 → τ1 → Option ρ} {x : Str} {f0 : γ → m τ0} {f1 : γ → m τ1} (D : Dfn X.prog X.w X.K X.mg X.base X.A x 2 (M2 fn)) (hg : Gl X x) (hdb : (x == ("__debug__" : Str)) = false) (sb : Stb W R) (n0 : NS a0) (n1 : NS a1) (h0 : EV X W R a0 f0) (h1 : EV X W R a1 f1) :
    EVf X W R (.Call (.Name x p) [a0, a1] [] pos) (fun g => f0 g >>= fun x0 => f1 g >>= fun x1 => MR.lift (fn x0 x1)) := fun g s y s' r σ H hR hW Q q => by
  obtain ⟨z0, s1, e0, r⟩ := run_bind_some r
  obtain ⟨z1, s2, e1, r⟩ := run_bind_some r
  obtain ⟨h, rfl⟩ := run_lift_some r
  refine call_run D hg hdb (by simp only [List.mem_cons, List.not_mem_nil, or_false]; rintro a (rfl | rfl) <;> assumption) (A_2 sb n0 n1 h0 h1) (ds := [enc z0, enc z1]) (s1 := s2) (d := enc y) (by simp [MR.run_bind, MR.run_pure, e0, e1]) rfl ⟨z0, z1, rfl, y, h, rfl⟩ hR hW q
theorem E_callI2 [Imm ρ] {fn : τ0 → τ1 → Option ρ} {x : Str} {f0 : γ → m τ0} {f1 : γ → m τ1} (D : Dfn X.prog X.w X.K X.mg X.base X.A x 2 (M2 fn)) (hg : Gl X x) (hdb : (x == ("__debug__" : Str)) = false) (sb : Stb W R) (n0 : NS a0) (n1 : NS a1) (h0 : EV X W R a0 f0) (h1 : EV X W R a1 f1) :
    EV X W R (.Call (.Name x p) [a0, a1] [] pos) (fun g => f0 g >>= fun x0 => f1 g >>= fun x1 => MR.lift (fn x0 x1)) := EV.of_f (E_call2 D hg hdb sb n0 n1 h0 h1)
end

/-! 3 -/
def M3 {τ0 τ1 τ2 ρ : Type} [Py τ0] [Py τ1] [Py τ2] [Py ρ] (f : τ0 → τ1 → τ2 → Option ρ) : List PyData → PyData → Prop := fun ds d => ∃ x0 x1 x2, ds = [enc x0, enc x1, enc x2] ∧ ∃ r, f x0 x1 x2 = some r ∧ d = enc r
section
variable {S : Type} {m : Type → Type} [Monad m] [MR m S] {γ τ0 τ1 τ2 ρ : Type} [Py τ0] [Py τ1] [Py τ2] [Py ρ] {X : Cx} {W : Wd S} {R : γ → Sg → Hp → Prop} {a0 a1 a2 : Expr} {pos p : Pos}
theorem A_3 {f0 : γ → m τ0} {f1 : γ → m τ1} {f2 : γ → m τ2} (sb : Stb W R) (n0 : NS a0) (n1 : NS a1) (n2 : NS a2) (h0 : EV X W R a0 f0) (h1 : EV X W R a1 f1) (h2 : EV X W R a2 f2) : AVs X W R [a0, a1, a2] (fun g => f0 g >>= fun x0 => f1 g >>= fun x1 => f2 g >>= fun x2 => pure [enc x0, enc x1, enc x2]) := by
  have h := A_cons sb n0 h0 (A_cons sb n1 h1 (A_cons sb n2 h2 (A_nil (X := X) (W := W) (R := R) (m := m))))
  intro g s x s' r
  refine h g s x s' ?_
  simp only [MR.run_bind, MR.run_pure] at r ⊢
  rw [← r]
  simp [MR.run_bind, MR.run_pure, Option.bind_assoc, Function.comp_def]
theorem E_call3 {fn : τ0 → τ1 → τ2 → Option ρ} {x : Str} {f0 : γ → m τ0} {f1 : γ → m τ1} {f2 : γ → m τ2} (D : Dfn X.prog X.w X.K X.mg X.base X.A x 3 (M3 fn)) (hg : Gl X x) (hdb : (x == ("__debug__" : Str)) = false) (sb : Stb W R) (n0 : NS a0) (n1 : NS a1) (n2 : NS a2) (h0 : EV X W R a0 f0) (h1 : EV X W R a1 f1) (h2 : EV X W R a2 f2) :
    EVf X W R (.Call (.Name x p) [a0, a1, a2] [] pos) (fun g => f0 g >>= fun x0 => f1 g >>= fun x1 => f2 g >>= fun x2 => MR.lift (fn x0 x1 x2)) := fun g s y s' r σ H hR hW Q q => by
  obtain ⟨z0, s1, e0, r⟩ := run_bind_some r
  obtain ⟨z1, s2, e1, r⟩ := run_bind_some r
  obtain ⟨z2, s3, e2, r⟩ := run_bind_some r
  obtain ⟨h, rfl⟩ := run_lift_some r
  refine call_run D hg hdb (by simp only [List.mem_cons, List.not_mem_nil, or_false]; rintro a (rfl | rfl | rfl) <;> assumption) (A_3 sb n0 n1 n2 h0 h1 h2) (ds := [enc z0, enc z1, enc z2]) (s1 := s3) (d := enc y) (by simp [MR.run_bind, MR.run_pure, e0, e1, e2]) rfl ⟨z0, z1, z2, rfl, y, h, rfl⟩ hR hW q
theorem E_callI3 [Imm ρ] {fn : τ0 → τ1 → τ2 → Option ρ} {x : Str} {f0 : γ → m τ0} {f1 : γ → m τ1} {f2 : γ → m τ2} (D : Dfn X.prog X.w X.K X.mg X.base X.A x 3 (M3 fn)) (hg : Gl X x) (hdb : (x == ("__debug__" : Str)) = false) (sb : Stb W R) (n0 : NS a0) (n1 : NS a1) (n2 : NS a2) (h0 : EV X W R a0 f0) (h1 : EV X W R a1 f1) (h2 : EV X W R a2 f2) :
    EV X W R (.Call (.Name x p) [a0, a1, a2] [] pos) (fun g => f0 g >>= fun x0 => f1 g >>= fun x1 => f2 g >>= fun x2 => MR.lift (fn x0 x1 x2)) := EV.of_f (E_call3 D hg hdb sb n0 n1 n2 h0 h1 h2)
end

/-! 4 -/
def M4 {τ0 τ1 τ2 τ3 ρ : Type} [Py τ0] [Py τ1] [Py τ2] [Py τ3] [Py ρ] (f : τ0 → τ1 → τ2 → τ3 → Option ρ) : List PyData → PyData → Prop := fun ds d => ∃ x0 x1 x2 x3, ds = [enc x0, enc x1, enc x2, enc x3] ∧ ∃ r, f x0 x1 x2 x3 = some r ∧ d = enc r
section
variable {S : Type} {m : Type → Type} [Monad m] [MR m S] {γ τ0 τ1 τ2 τ3 ρ : Type} [Py τ0] [Py τ1] [Py τ2] [Py τ3] [Py ρ] {X : Cx} {W : Wd S} {R : γ → Sg → Hp → Prop} {a0 a1 a2 a3 : Expr} {pos p : Pos}
theorem A_4 {f0 : γ → m τ0} {f1 : γ → m τ1} {f2 : γ → m τ2} {f3 : γ → m τ3} (sb : Stb W R) (n0 : NS a0) (n1 : NS a1) (n2 : NS a2) (n3 : NS a3) (h0 : EV X W R a0 f0) (h1 : EV X W R a1 f1) (h2 : EV X W R a2 f2) (h3 : EV X W R a3 f3) : AVs X W R [a0, a1, a2, a3] (fun g => f0 g >>= fun x0 => f1 g >>= fun x1 => f2 g >>= fun x2 => f3 g >>= fun x3 => pure [enc x0, enc x1, enc x2, enc x3]) := by
  have h := A_cons sb n0 h0 (A_cons sb n1 h1 (A_cons sb n2 h2 (A_cons sb n3 h3 (A_nil (X := X) (W := W) (R := R) (m := m)))))
  intro g s x s' r
  refine h g s x s' ?_
  simp only [MR.run_bind, MR.run_pure] at r ⊢
  rw [← r]
  simp [MR.run_bind, MR.run_pure, Option.bind_assoc, Function.comp_def]
theorem E_call4 {fn : τ0 → τ1 → τ2 → τ3 → Option ρ} {x : Str} {f0 : γ → m τ0} {f1 : γ → m τ1} {f2 : γ → m τ2} {f3 : γ → m τ3} (D : Dfn X.prog X.w X.K X.mg X.base X.A x 4 (M4 fn)) (hg : Gl X x) (hdb : (x == ("__debug__" : Str)) = false) (sb : Stb W R) (n0 : NS a0) (n1 : NS a1) (n2 : NS a2) (n3 : NS a3) (h0 : EV X W R a0 f0) (h1 : EV X W R a1 f1) (h2 : EV X W R a2 f2) (h3 : EV X W R a3 f3) :
    EVf X W R (.Call (.Name x p) [a0, a1, a2, a3] [] pos) (fun g => f0 g >>= fun x0 => f1 g >>= fun x1 => f2 g >>= fun x2 => f3 g >>= fun x3 => MR.lift (fn x0 x1 x2 x3)) := fun g s y s' r σ H hR hW Q q => by
  obtain ⟨z0, s1, e0, r⟩ := run_bind_some r
  obtain ⟨z1, s2, e1, r⟩ := run_bind_some r
  obtain ⟨z2, s3, e2, r⟩ := run_bind_some r
  obtain ⟨z3, s4, e3, r⟩ := run_bind_some r
  obtain ⟨h, rfl⟩ := run_lift_some r
  refine call_run D hg hdb (by simp only [List.mem_cons, List.not_mem_nil, or_false]; rintro a (rfl | rfl | rfl | rfl) <;> assumption) (A_4 sb n0 n1 n2 n3 h0 h1 h2 h3) (ds := [enc z0, enc z1, enc z2, enc z3]) (s1 := s4) (d := enc y) (by simp [MR.run_bind, MR.run_pure, e0, e1, e2, e3]) rfl ⟨z0, z1, z2, z3, rfl, y, h, rfl⟩ hR hW q
theorem E_callI4 [Imm ρ] {fn : τ0 → τ1 → τ2 → τ3 → Option ρ} {x : Str} {f0 : γ → m τ0} {f1 : γ → m τ1} {f2 : γ → m τ2} {f3 : γ → m τ3} (D : Dfn X.prog X.w X.K X.mg X.base X.A x 4 (M4 fn)) (hg : Gl X x) (hdb : (x == ("__debug__" : Str)) = false) (sb : Stb W R) (n0 : NS a0) (n1 : NS a1) (n2 : NS a2) (n3 : NS a3) (h0 : EV X W R a0 f0) (h1 : EV X W R a1 f1) (h2 : EV X W R a2 f2) (h3 : EV X W R a3 f3) :
    EV X W R (.Call (.Name x p) [a0, a1, a2, a3] [] pos) (fun g => f0 g >>= fun x0 => f1 g >>= fun x1 => f2 g >>= fun x2 => f3 g >>= fun x3 => MR.lift (fn x0 x1 x2 x3)) := EV.of_f (E_call4 D hg hdb sb n0 n1 n2 n3 h0 h1 h2 h3)
end

/-! 5 -/
def M5 {τ0 τ1 τ2 τ3 τ4 ρ : Type} [Py τ0] [Py τ1] [Py τ2] [Py τ3] [Py τ4] [Py ρ] (f : τ0 → τ1 → τ2 → τ3 → τ4 → Option ρ) : List PyData → PyData → Prop := fun ds d => ∃ x0 x1 x2 x3 x4, ds = [enc x0, enc x1, enc x2, enc x3, enc x4] ∧ ∃ r, f x0 x1 x2 x3 x4 = some r ∧ d = enc r
section
variable {S : Type} {m : Type → Type} [Monad m] [MR m S] {γ τ0 τ1 τ2 τ3 τ4 ρ : Type} [Py τ0] [Py τ1] [Py τ2] [Py τ3] [Py τ4] [Py ρ] {X : Cx} {W : Wd S} {R : γ → Sg → Hp → Prop} {a0 a1 a2 a3 a4 : Expr} {pos p : Pos}
theorem A_5 {f0 : γ → m τ0} {f1 : γ → m τ1} {f2 : γ → m τ2} {f3 : γ → m τ3} {f4 : γ → m τ4} (sb : Stb W R) (n0 : NS a0) (n1 : NS a1) (n2 : NS a2) (n3 : NS a3) (n4 : NS a4) (h0 : EV X W R a0 f0) (h1 : EV X W R a1 f1) (h2 : EV X W R a2 f2) (h3 : EV X W R a3 f3) (h4 : EV X W R a4 f4) : AVs X W R [a0, a1, a2, a3, a4] (fun g => f0 g >>= fun x0 => f1 g >>= fun x1 => f2 g >>= fun x2 => f3 g >>= fun x3 => f4 g >>= fun x4 => pure [enc x0, enc x1, enc x2, enc x3, enc x4]) := by
  have h := A_cons sb n0 h0 (A_cons sb n1 h1 (A_cons sb n2 h2 (A_cons sb n3 h3 (A_cons sb n4 h4 (A_nil (X := X) (W := W) (R := R) (m := m))))))
  intro g s x s' r
  refine h g s x s' ?_
  simp only [MR.run_bind, MR.run_pure] at r ⊢
  rw [← r]
  simp [MR.run_bind, MR.run_pure, Option.bind_assoc, Function.comp_def]
theorem E_call5 {fn : τ0 → τ1 → τ2 → τ3 → τ4 → Option ρ} {x : Str} {f0 : γ → m τ0} {f1 : γ → m τ1} {f2 : γ → m τ2} {f3 : γ → m τ3} {f4 : γ → m τ4} (D : Dfn X.prog X.w X.K X.mg X.base X.A x 5 (M5 fn)) (hg : Gl X x) (hdb : (x == ("__debug__" : Str)) = false) (sb : Stb W R) (n0 : NS a0) (n1 : NS a1) (n2 : NS a2) (n3 : NS a3) (n4 : NS a4) (h0 : EV X W R a0 f0) (h1 : EV X W R a1 f1) (h2 : EV X W R a2 f2) (h3 : EV X W R a3 f3) (h4 : EV X W R a4 f4) :
    EVf X W R (.Call (.Name x p) [a0, a1, a2, a3, a4] [] pos) (fun g => f0 g >>= fun x0 => f1 g >>= fun x1 => f2 g >>= fun x2 => f3 g >>= fun x3 => f4 g >>= fun x4 => MR.lift (fn x0 x1 x2 x3 x4)) := fun g s y s' r σ H hR hW Q q => by
  obtain ⟨z0, s1, e0, r⟩ := run_bind_some r
  obtain ⟨z1, s2, e1, r⟩ := run_bind_some r
  obtain ⟨z2, s3, e2, r⟩ := run_bind_some r
  obtain ⟨z3, s4, e3, r⟩ := run_bind_some r
  obtain ⟨z4, s5, e4, r⟩ := run_bind_some r
  obtain ⟨h, rfl⟩ := run_lift_some r
  refine call_run D hg hdb (by simp only [List.mem_cons, List.not_mem_nil, or_false]; rintro a (rfl | rfl | rfl | rfl | rfl) <;> assumption) (A_5 sb n0 n1 n2 n3 n4 h0 h1 h2 h3 h4) (ds := [enc z0, enc z1, enc z2, enc z3, enc z4]) (s1 := s5) (d := enc y) (by simp [MR.run_bind, MR.run_pure, e0, e1, e2, e3, e4]) rfl ⟨z0, z1, z2, z3, z4, rfl, y, h, rfl⟩ hR hW q
theorem E_callI5 [Imm ρ] {fn : τ0 → τ1 → τ2 → τ3 → τ4 → Option ρ} {x : Str} {f0 : γ → m τ0} {f1 : γ → m τ1} {f2 : γ → m τ2} {f3 : γ → m τ3} {f4 : γ → m τ4} (D : Dfn X.prog X.w X.K X.mg X.base X.A x 5 (M5 fn)) (hg : Gl X x) (hdb : (x == ("__debug__" : Str)) = false) (sb : Stb W R) (n0 : NS a0) (n1 : NS a1) (n2 : NS a2) (n3 : NS a3) (n4 : NS a4) (h0 : EV X W R a0 f0) (h1 : EV X W R a1 f1) (h2 : EV X W R a2 f2) (h3 : EV X W R a3 f3) (h4 : EV X W R a4 f4) :
    EV X W R (.Call (.Name x p) [a0, a1, a2, a3, a4] [] pos) (fun g => f0 g >>= fun x0 => f1 g >>= fun x1 => f2 g >>= fun x2 => f3 g >>= fun x3 => f4 g >>= fun x4 => MR.lift (fn x0 x1 x2 x3 x4)) := EV.of_f (E_call5 D hg hdb sb n0 n1 n2 n3 n4 h0 h1 h2 h3 h4)
end

/-! 6 -/
def M6 {τ0 τ1 τ2 τ3 τ4 τ5 ρ : Type} [Py τ0] [Py τ1] [Py τ2] [Py τ3] [Py τ4] [Py τ5] [Py ρ] (f : τ0 → τ1 → τ2 → τ3 → τ4 → τ5 → Option ρ) : List PyData → PyData → Prop := fun ds d => ∃ x0 x1 x2 x3 x4 x5, ds = [enc x0, enc x1, enc x2, enc x3, enc x4, enc x5] ∧ ∃ r, f x0 x1 x2 x3 x4 x5 = some r ∧ d = enc r
section
variable {S : Type} {m : Type → Type} [Monad m] [MR m S] {γ τ0 τ1 τ2 τ3 τ4 τ5 ρ : Type} [Py τ0] [Py τ1] [Py τ2] [Py τ3] [Py τ4] [Py τ5] [Py ρ] {X : Cx} {W : Wd S} {R : γ → Sg → Hp → Prop} {a0 a1 a2 a3 a4 a5 : Expr} {pos p : Pos}
theorem A_6 {f0 : γ → m τ0} {f1 : γ → m τ1} {f2 : γ → m τ2} {f3 : γ → m τ3} {f4 : γ → m τ4} {f5 : γ → m τ5} (sb : Stb W R) (n0 : NS a0) (n1 : NS a1) (n2 : NS a2) (n3 : NS a3) (n4 : NS a4) (n5 : NS a5) (h0 : EV X W R a0 f0) (h1 : EV X W R a1 f1) (h2 : EV X W R a2 f2) (h3 : EV X W R a3 f3) (h4 : EV X W R a4 f4) (h5 : EV X W R a5 f5) : AVs X W R [a0, a1, a2, a3, a4, a5] (fun g => f0 g >>= fun x0 => f1 g >>= fun x1 => f2 g >>= fun x2 => f3 g >>= fun x3 => f4 g >>= fun x4 => f5 g >>= fun x5 => pure [enc x0, enc x1, enc x2, enc x3, enc x4, enc x5]) := by
  have h := A_cons sb n0 h0 (A_cons sb n1 h1 (A_cons sb n2 h2 (A_cons sb n3 h3 (A_cons sb n4 h4 (A_cons sb n5 h5 (A_nil (X := X) (W := W) (R := R) (m := m)))))))
  intro g s x s' r
  refine h g s x s' ?_
  simp only [MR.run_bind, MR.run_pure] at r ⊢
  rw [← r]
  simp [MR.run_bind, MR.run_pure, Option.bind_assoc, Function.comp_def]
theorem E_call6 {fn : τ0 → τ1 → τ2 → τ3 → τ4 → τ5 → Option ρ} {x : Str} {f0 : γ → m τ0} {f1 : γ → m τ1} {f2 : γ → m τ2} {f3 : γ → m τ3} {f4 : γ → m τ4} {f5 : γ → m τ5} (D : Dfn X.prog X.w X.K X.mg X.base X.A x 6 (M6 fn)) (hg : Gl X x) (hdb : (x == ("__debug__" : Str)) = false) (sb : Stb W R) (n0 : NS a0) (n1 : NS a1) (n2 : NS a2) (n3 : NS a3) (n4 : NS a4) (n5 : NS a5) (h0 : EV X W R a0 f0) (h1 : EV X W R a1 f1) (h2 : EV X W R a2 f2) (h3 : EV X W R a3 f3) (h4 : EV X W R a4 f4) (h5 : EV X W R a5 f5) :
    EVf X W R (.Call (.Name x p) [a0, a1, a2, a3, a4, a5] [] pos) (fun g => f0 g >>= fun x0 => f1 g >>= fun x1 => f2 g >>= fun x2 => f3 g >>= fun x3 => f4 g >>= fun x4 => f5 g >>= fun x5 => MR.lift (fn x0 x1 x2 x3 x4 x5)) := fun g s y s' r σ H hR hW Q q => by
  obtain ⟨z0, s1, e0, r⟩ := run_bind_some r
  obtain ⟨z1, s2, e1, r⟩ := run_bind_some r
  obtain ⟨z2, s3, e2, r⟩ := run_bind_some r
  obtain ⟨z3, s4, e3, r⟩ := run_bind_some r
  obtain ⟨z4, s5, e4, r⟩ := run_bind_some r
  obtain ⟨z5, s6, e5, r⟩ := run_bind_some r
  obtain ⟨h, rfl⟩ := run_lift_some r
  refine call_run D hg hdb (by simp only [List.mem_cons, List.not_mem_nil, or_false]; rintro a (rfl | rfl | rfl | rfl | rfl | rfl) <;> assumption) (A_6 sb n0 n1 n2 n3 n4 n5 h0 h1 h2 h3 h4 h5) (ds := [enc z0, enc z1, enc z2, enc z3, enc z4, enc z5]) (s1 := s6) (d := enc y) (by simp [MR.run_bind, MR.run_pure, e0, e1, e2, e3, e4, e5]) rfl ⟨z0, z1, z2, z3, z4, z5, rfl, y, h, rfl⟩ hR hW q
theorem E_callI6 [Imm ρ] {fn : τ0 → τ1 → τ2 → τ3 → τ4 → τ5 → Option ρ} {x : Str} {f0 : γ → m τ0} {f1 : γ → m τ1} {f2 : γ → m τ2} {f3 : γ → m τ3} {f4 : γ → m τ4} {f5 : γ → m τ5} (D : Dfn X.prog X.w X.K X.mg X.base X.A x 6 (M6 fn)) (hg : Gl X x) (hdb : (x == ("__debug__" : Str)) = false) (sb : Stb W R) (n0 : NS a0) (n1 : NS a1) (n2 : NS a2) (n3 : NS a3) (n4 : NS a4) (n5 : NS a5) (h0 : EV X W R a0 f0) (h1 : EV X W R a1 f1) (h2 : EV X W R a2 f2) (h3 : EV X W R a3 f3) (h4 : EV X W R a4 f4) (h5 : EV X W R a5 f5) :
    EV X W R (.Call (.Name x p) [a0, a1, a2, a3, a4, a5] [] pos) (fun g => f0 g >>= fun x0 => f1 g >>= fun x1 => f2 g >>= fun x2 => f3 g >>= fun x3 => f4 g >>= fun x4 => f5 g >>= fun x5 => MR.lift (fn x0 x1 x2 x3 x4 x5)) := EV.of_f (E_call6 D hg hdb sb n0 n1 n2 n3 n4 n5 h0 h1 h2 h3 h4 h5)
end

section
variable {S : Type} {m : Type → Type} [Monad m] [MR m S] {γ α β δ ε ρ : Type} [Py α] [Py β] [Py δ] [Py ε] [Py ρ] {X : Cx} {W : Wd S} {R : γ → Sg → Hp → Prop} {e a b c d : Expr} {es rest : List Expr} {pos p : Pos} {j : Nat}
def M0 (f : Option ρ) : List PyData → PyData → Prop := fun ds d => ds = [] ∧ ∃ r, f = some r ∧ d = enc r
theorem E_call0 {fn : Option ρ} {x : Str} (D : Dfn X.prog X.w X.K X.mg X.base X.A x 0 (M0 fn)) (hg : Gl X x) (hdb : (x == ("__debug__" : Str)) = false) : EVf X W R (.Call (.Name x p) [] [] pos) (fun _ => (MR.lift fn : m ρ)) := fun g s y s' r σ H hR hW Q q => by
  obtain ⟨h, rfl⟩ := run_lift_some r
  exact call_run0 D hg hdb (d := enc y) ⟨rfl, y, h, rfl⟩ hW q
/-! ### tuples, lists that are written -/
theorem tup_run {k : γ → m (List PyData)} (hA : AVs X W R es k) {g : γ} {s s1 : S} {ds : List PyData} (h1 : MR.run (k g) s = some (ds, s1)) (hl : ds.length ≤ 1000) {σ : Sg} {H : Hp} (hR : R g σ H) (hW : W.WI s H)
    {Q : VK} (q : ∀ v H', gr W.Av H H' → W.WI s1 H' → Rp X.K W.Av H' v (.tuple ds) → Q v H') : wE X (.Tuple es j pos) σ H Q := by
  refine wE.of (pe_tup (paW es)) (hA g s ds s1 h1 σ H hR hW _ fun vs H1 g1 w1 p1 => ?_)
  have hz : vs.length ≤ sizeLine := by rw [p1.length]; exact Nat.le_of_lt (small1000 hl)
  refine ⟨hz, fun p hp => q _ _ (g1.trans (.new hp)) (W.new w1 hp) (.tup hz (.of upd_same) (p1.mono (.new hp)))⟩
theorem E_tup2 {f0 : γ → m α} {f1 : γ → m β} (sb : Stb W R) (n0 : NS a) (n1 : NS b) (h0 : EV X W R a f0) (h1 : EV X W R b f1) : EV X W R (.Tuple [a, b] j pos) (fun g => f0 g >>= fun x => f1 g >>= fun y => pure (x, y)) := fun g s y s' r σ H hR hW Q q => by
  obtain ⟨z0, s1, e0, r⟩ := run_bind_some r
  obtain ⟨z1, s2, e1, r⟩ := run_bind_some r
  obtain ⟨rfl, rfl⟩ := run_pure_some r
  exact tup_run (A_2 sb n0 n1 h0 h1) (ds := [enc z0, enc z1]) (by simp [MR.run_bind, MR.run_pure, e0, e1]) (by simp) hR hW q
theorem E_tup3 {f0 : γ → m α} {f1 : γ → m β} {f2 : γ → m δ} (sb : Stb W R) (n0 : NS a) (n1 : NS b) (n2 : NS c) (h0 : EV X W R a f0) (h1 : EV X W R b f1) (h2 : EV X W R c f2) :
    EV X W R (.Tuple [a, b, c] j pos) (fun g => f0 g >>= fun x => f1 g >>= fun y => f2 g >>= fun z => pure (T3.mk x y z)) := fun g s y s' r σ H hR hW Q q => by
  obtain ⟨z0, s1, e0, r⟩ := run_bind_some r
  obtain ⟨z1, s2, e1, r⟩ := run_bind_some r
  obtain ⟨z2, s3, e2, r⟩ := run_bind_some r
  obtain ⟨rfl, rfl⟩ := run_pure_some r
  exact tup_run (A_3 sb n0 n1 n2 h0 h1 h2) (ds := [enc z0, enc z1, enc z2]) (by simp [MR.run_bind, MR.run_pure, e0, e1, e2]) (by simp) hR hW q
theorem E_tup4 {f0 : γ → m α} {f1 : γ → m β} {f2 : γ → m δ} {f3 : γ → m ε} (sb : Stb W R) (n0 : NS a) (n1 : NS b) (n2 : NS c) (n3 : NS d) (h0 : EV X W R a f0) (h1 : EV X W R b f1) (h2 : EV X W R c f2) (h3 : EV X W R d f3) :
    EV X W R (.Tuple [a, b, c, d] j pos) (fun g => f0 g >>= fun x => f1 g >>= fun y => f2 g >>= fun z => f3 g >>= fun u => pure (T4.mk x y z u)) := fun g s y s' r σ H hR hW Q q => by
  obtain ⟨z0, s1, e0, r⟩ := run_bind_some r
  obtain ⟨z1, s2, e1, r⟩ := run_bind_some r
  obtain ⟨z2, s3, e2, r⟩ := run_bind_some r
  obtain ⟨z3, s4, e3, r⟩ := run_bind_some r
  obtain ⟨rfl, rfl⟩ := run_pure_some r
  exact tup_run (A_4 sb n0 n1 n2 n3 h0 h1 h2 h3) (ds := [enc z0, enc z1, enc z2, enc z3]) (by simp [MR.run_bind, MR.run_pure, e0, e1, e2, e3]) (by simp) hR hW q
/-- written items of one kind -/
structure HV (X : Cx) (W : Wd S) (R : γ → Sg → Hp → Prop) (es : List Expr) (f : γ → m (List α)) : Prop where
  av : AVs X W R es (fun g => f g >>= fun xs => pure (xs.map enc))
  len : ∀ g s xs s', MR.run (f g) s = some (xs, s') → xs.length = es.length
theorem H_nil : HV X W R [] (fun _ => (pure [] : m (List α))) := ⟨fun g s x s' r => A_nil (m := m) g s x s' (by rw [← r]; simp [MR.run_bind, MR.run_pure]), fun g s xs s' r => by obtain ⟨rfl, rfl⟩ := run_pure_some r; rfl⟩
theorem H_cons {f : γ → m α} {k : γ → m (List α)} (sb : Stb W R) (n1 : NS e) (ha : EV X W R e f) (hr : HV X W R es k) : HV X W R (e :: es) (fun g => f g >>= fun x => k g >>= fun xs => pure (x :: xs)) :=
  ⟨fun g s x s' r => A_cons sb n1 ha hr.av g s x s' (by rw [← r]; simp [MR.run_bind, MR.run_pure, Option.bind_assoc, Function.comp_def]), fun g s xs s' r => by
    obtain ⟨z0, s1, e0, r⟩ := run_bind_some r
    obtain ⟨z1, s2, e1, r⟩ := run_bind_some r
    obtain ⟨rfl, rfl⟩ := run_pure_some r
    simp [hr.len g _ _ _ e1]⟩
theorem E_tupL {f : γ → m (List α)} (h : HV X W R es f) (hl : es.length ≤ 1000) : EV X W R (.Tuple es j pos) f := fun g s y s' r σ H hR hW Q q => by
  exact tup_run h.av (ds := y.map enc) (by simp [MR.run_bind, MR.run_pure, r]) (by rw [List.length_map, h.len g s y s' r]; exact hl) hR hW q
theorem E_lst {f : γ → m (List α)} [Imm α] (h : HV X W R es f) (hl : es.length ≤ 1000) : EVf X W R (.List es pos) (fun g => f g >>= fun xs => pure (Ls.mk xs)) := fun g s y s' r σ H hR hW Q q => by
  obtain ⟨z0, s1, e0, r⟩ := run_bind_some r
  obtain ⟨rfl, rfl⟩ := run_pure_some r
  refine wE.of (pe_lst (paW es)) (h.av g s (z0.map enc) s1 (by simp [MR.run_bind, MR.run_pure, e0]) σ H hR hW _ fun vs H1 g1 w1 p1 => ?_)
  have hz : vs.length ≤ sizeLine := by rw [p1.length, List.length_map, h.len g s _ _ e0]; exact Nat.le_of_lt (small1000 hl)
  refine ⟨hz, fun p hp => q _ _ (g1.trans (.new hp)) (W.new w1 hp) (.obj (fun z => g1.ex p z hp) (.lst hz upd_same (((p1.mono (.new hp))).any (immDs_map z0))))⟩
/-! ### subscripts -/
theorem E_fld (pr : α → β) (i : Nat) {z : Int} {f : γ → m α} {j : Nat} (ha : EV X W R a f) (hz : z = (i : Int) := by rfl) (hp : ∀ x : α, ∃ ds, enc x = PyData.tuple ds ∧ ds[i]? = some (enc (pr x)) := by intro x; exact ⟨_, rfl, rfl⟩) :
    EV X W R (.Subscript a (.Constant (.int z) j p) pos) (fun g => f g >>= fun x => pure (pr x)) := fun g s y s' r σ H hR hW Q q => by
  obtain ⟨z0, s1, e0, r⟩ := run_bind_some r
  obtain ⟨rfl, rfl⟩ := run_pure_some r
  subst hz
  refine wE.of (pe_ix ix_tup (peW a) (peW _) (fun _ _ => rfl)) (ha g s z0 _ e0 σ H hR hW _ fun v H1 g1 w1 p1 => wE.of pe_int ?_)
  obtain ⟨ds, e1, e2⟩ := hp z0
  rw [e1] at p1
  obtain ⟨t, xs, rfl, hz, hs, hx⟩ := p1.tup_inv
  obtain ⟨v, e3, p3⟩ := hx.get e2
  exact ⟨t, xs, (i : Int), v, rfl, rfl, hs, atI_nat e3, q _ _ g1 w1 p3⟩
theorem atI_all {K : PySem.W.Frag} {A : Addr → Prop} {H : Hp} {vs : List V} {xs : List α} (h : RpAll K A H vs (xs.map enc)) {i : Int} {x : α} (e : atI xs i = some x) : ∃ v, atI vs i = some v ∧ Rp K A H v (enc x) := by
  unfold atI at *
  have hl := h.length
  rw [List.length_map] at hl
  rw [hl]
  cases q : ixN xs.length i with
  | none => rw [q] at e; cases e
  | some j =>
    rw [q] at e
    have e : xs[j]? = some x := e
    exact h.get (by rw [List.getElem?_map, e]; rfl)
/-- t[i], t a tuple of any length -/
theorem E_ixT (sb : Stb W R) {f : γ → m (List α)} {k : γ → m Int} (ha : EV X W R a f) (hb : EV X W R b k) (hp : PlainIx b := by exact fun _ _ => rfl) :
    EV X W R (.Subscript a b pos) (fun g => f g >>= fun x => k g >>= fun i => MR.lift (atI x i)) := fun g s y s' r σ H hR hW Q q => by
  obtain ⟨z0, s1, e0, r⟩ := run_bind_some r
  obtain ⟨z1, s2, e1, r⟩ := run_bind_some r
  obtain ⟨h, rfl⟩ := run_lift_some r
  refine wE.of (pe_ix ix_tup (peW a) (peW _) hp) (EV.two sb ha hb e0 e1 hR hW fun v u H1 g1 w1 p1 p2 => ?_)
  obtain ⟨t, xs, rfl, hz, hs, hx⟩ := p1.tup_inv
  obtain ⟨v, e3, p3⟩ := atI_all hx h
  exact ⟨t, xs, _, v, rfl, p2.int_inv, hs, e3, q _ _ g1 w1 p3⟩
theorem E_ixL (sb : Stb W R) {f : γ → m (Ls α)} {k : γ → m Int} (ha : EV X W R a f) (hb : EV X W R b k) (hp : PlainIx b := by exact fun _ _ => rfl) :
    EV X W R (.Subscript a b pos) (fun g => f g >>= fun x => k g >>= fun i => MR.lift (atI x.l i)) := fun g s y s' r σ H hR hW Q q => by
  obtain ⟨z0, s1, e0, r⟩ := run_bind_some r
  obtain ⟨z1, s2, e1, r⟩ := run_bind_some r
  obtain ⟨h, rfl⟩ := run_lift_some r
  refine wE.of (pe_ix ix_list (peW a) (peW _) hp) (EV.two sb ha hb e0 e1 hR hW fun v u H1 g1 w1 p1 p2 => ?_)
  obtain ⟨t, xs, rfl, hn, hz, hs, hx⟩ := p1.lst_inv
  obtain ⟨v, e3, p3⟩ := atI_all hx h
  exact ⟨t, xs, _, v, rfl, p2.int_inv, .of hs, e3, q _ _ g1 w1 p3⟩
/-! ### built-ins -/
section
variable {x : Str}
theorem blt_run {id : String} {r : List V → Hp → VK → Prop} (hc : CallR X (.builtin id) r) (hg : Gl X x) (hm : X.mg x = none) (hv : bootBuiltins x = some (.builtin id)) (ns : ∀ a ∈ e :: es, NS a) (hn : x ≠ "__name__") (hdb : (x == ("__debug__" : Str)) = false)
    {σ : Sg} {H : Hp} {Q : VK} (h : wA X (e :: es) σ H fun vs H1 => r vs H1 Q) : wE X (.Call (.Name x p) (e :: es) [] pos) σ H Q :=
  wE.of (pe_callB hc hg hm hv (paW _) hn hdb (ns e List.mem_cons_self _ _) (by rw [backTo_any]; exact NSs_any (fun a ha => ns a (List.mem_cons_of_mem _ ha)) _)) h
theorem ty_run {T : String} {r : List V → Hp → VK → Prop} (hc : CallR X (.type T) r) (hg : Gl X x) (hm : X.mg x = none) (hv : bootBuiltins x = some (.type T)) (ns : ∀ a ∈ e :: es, NS a) (hn : x ≠ "__name__") (hdb : (x == ("__debug__" : Str)) = false)
    {σ : Sg} {H : Hp} {Q : VK} (h : wA X (e :: es) σ H fun vs H1 => r vs H1 Q) : wE X (.Call (.Name x p) (e :: es) [] pos) σ H Q :=
  wE.of (pe_callTy hc hg hm hv (paW _) hn hdb (ns e List.mem_cons_self _ _) (by rw [backTo_any]; exact NSs_any (fun a ha => ns a (List.mem_cons_of_mem _ ha)) _)) h
theorem ns1 (n : NS a) : ∀ b ∈ [a], NS b := by
  simp only [List.mem_cons, List.not_mem_nil, or_false]; rintro b rfl; exact n
theorem ns2 (n : NS a) (k : NS b) : ∀ c ∈ [a, b], NS c := by
  simp only [List.mem_cons, List.not_mem_nil, or_false]; rintro c (rfl | rfl) <;> assumption
/-- one argument -/
theorem A1_run {f : γ → m α} (sb : Stb W R) (n : NS a) (h : EV X W R a f) {g : γ} {s s1 : S} {z : α} (e0 : MR.run (f g) s = some (z, s1)) {σ : Sg} {H : Hp} (hR : R g σ H) (hW : W.WI s H) {Q : List V → Hp → Prop}
    (q : ∀ v H', gr W.Av H H' → W.WI s1 H' → Rp X.K W.Av H' v (enc z) → Q [v] H') : wA X [a] σ H Q :=
  wA.of (pa_cons (peW a) pa_nil (n _ _)) (h g s z s1 e0 σ H hR hW _ fun v H1 g1 w1 p1 => q v H1 g1 w1 p1)
theorem A1f_run {f : γ → m α} (n : NS a) (h : EVf X W R a f) {g : γ} {s s1 : S} {z : α} (e0 : MR.run (f g) s = some (z, s1)) {σ : Sg} {H : Hp} (hR : R g σ H) (hW : W.WI s H) {Q : List V → Hp → Prop}
    (q : ∀ v H', gr W.Av H H' → W.WI s1 H' → Rp X.K (fun a => H a ≠ none) H' v (enc z) → Q [v] H') : wA X [a] σ H Q :=
  wA.of (pa_cons (peW a) pa_nil (n _ _)) (h g s z s1 e0 σ H hR hW _ fun v H1 g1 w1 p1 => q v H1 g1 w1 p1)
theorem A2_run {f : γ → m α} {k : γ → m β} (sb : Stb W R) (n : NS a) (n' : NS b) (h : EV X W R a f) (h' : EV X W R b k) {g : γ} {s s1 s2 : S} {z : α} {y : β} (e0 : MR.run (f g) s = some (z, s1)) (e1 : MR.run (k g) s1 = some (y, s2))
    {σ : Sg} {H : Hp} (hR : R g σ H) (hW : W.WI s H) {Q : List V → Hp → Prop} (q : ∀ v u H', gr W.Av H H' → W.WI s2 H' → Rp X.K W.Av H' v (enc z) → Rp X.K W.Av H' u (enc y) → Q [v, u] H') : wA X [a, b] σ H Q :=
  wA.of (pa_cons (peW a) (pa_cons (peW b) pa_nil (n' _ _)) (n _ _)) (EV.two sb h h' e0 e1 hR hW fun v u H1 g1 w1 p1 p2 => q v u H1 g1 w1 p1 p2)
theorem E_lenT {f : γ → m (List α)} (hm : X.mg "len" = none) (hg : Gl X "len") (sb : Stb W R) (n : NS a) (h : EV X W R a f) : EV X W R (.Call (.Name "len" p) [a] [] pos) (fun g => f g >>= fun x => pure (x.length : Int)) := fun g s y s' r σ H hR hW Q q => by
  obtain ⟨z0, s1, e0, r⟩ := run_bind_some r
  obtain ⟨rfl, rfl⟩ := run_pure_some r
  refine blt_run call_len_seq hg hm PySem.boot_len (ns1 n) (by decide) (by decide) (A1_run sb n h e0 hR hW fun v H1 g1 w1 p1 => ?_)
  obtain ⟨t, xs, rfl, hz, hs, hx⟩ := p1.tup_inv
  exact ⟨t, xs, rfl, .inr hs, by rw [hx.length, List.length_map]; exact q _ _ g1 w1 (.int _)⟩
theorem E_lenL {f : γ → m (Ls α)} (hm : X.mg "len" = none) (hg : Gl X "len") (sb : Stb W R) (n : NS a) (h : EV X W R a f) : EV X W R (.Call (.Name "len" p) [a] [] pos) (fun g => f g >>= fun x => pure (x.l.length : Int)) := fun g s y s' r σ H hR hW Q q => by
  obtain ⟨z0, s1, e0, r⟩ := run_bind_some r
  obtain ⟨rfl, rfl⟩ := run_pure_some r
  refine blt_run call_len_seq hg hm PySem.boot_len (ns1 n) (by decide) (by decide) (A1_run sb n h e0 hR hW fun v H1 g1 w1 p1 => ?_)
  obtain ⟨t, xs, rfl, hn, hz, hs, hx⟩ := p1.lst_inv
  exact ⟨t, xs, rfl, .inl (.of hs), by rw [hx.length, List.length_map]; exact q _ _ g1 w1 (.int _)⟩
def absI (i : Int) : Int := if i < 0 then -i else i
theorem E_abs {f : γ → m Int} (hm : X.mg "abs" = none) (hg : Gl X "abs") (hc : X.calm = true) (sb : Stb W R) (n : NS a) (h : EV X W R a f) : EV X W R (.Call (.Name "abs" p) [a] [] pos) (fun g => f g >>= fun x => pure (absI x)) := fun g s y s' r σ H hR hW Q q => by
  obtain ⟨z0, s1, e0, r⟩ := run_bind_some r
  obtain ⟨rfl, rfl⟩ := run_pure_some r
  refine blt_run call_abs hg hm (by decide +kernel) (ns1 n) (by decide) (by decide) (A1_run sb n h e0 hR hW fun v H1 g1 w1 p1 => ?_)
  exact ⟨z0, by rw [p1.int_inv], q _ _ g1 w1 (.int _)⟩
/-- tuple(list) -/
theorem E_tupleL {f : γ → m (Ls α)} [Imm α] (hm : X.mg "tuple" = none) (hg : Gl X "tuple") (sb : Stb W R) (n : NS a) (h : EV X W R a f) : EV X W R (.Call (.Name "tuple" p) [a] [] pos) (fun g => f g >>= fun x => pure x.l) := fun g s y s' r σ H hR hW Q q => by
  obtain ⟨z0, s1, e0, r⟩ := run_bind_some r
  obtain ⟨rfl, rfl⟩ := run_pure_some r
  refine ty_run call_tuple_of hg hm (by decide +kernel) (ns1 n) (by decide) (by decide) (A1_run sb n h e0 hR hW fun v H1 g1 w1 p1 => ?_)
  obtain ⟨t, xs, rfl, hn, hz, hs, hx⟩ := p1.lst_inv
  exact ⟨t, xs, rfl, .inl ⟨.of hs, fun l hl => q _ _ (g1.trans (.new hl)) (W.new w1 hl) (.tup hz (.of upd_same) (hx.mono (.new hl)))⟩⟩
theorem E_tupleT {f : γ → m (List α)} (hm : X.mg "tuple" = none) (hg : Gl X "tuple") (sb : Stb W R) (n : NS a) (h : EV X W R a f) : EV X W R (.Call (.Name "tuple" p) [a] [] pos) f := fun g s y s' r σ H hR hW Q q => by
  refine ty_run call_tuple_of hg hm (by decide +kernel) (ns1 n) (by decide) (by decide) (A1_run sb n h r hR hW fun v H1 g1 w1 p1 => ?_)
  obtain ⟨t, xs, rfl, hz, hs, hx⟩ := p1.tup_inv
  exact ⟨t, xs, rfl, .inr ⟨hs, q _ _ g1 w1 p1⟩⟩
/-- list(tuple), list(list) -/
theorem E_listT {f : γ → m (List α)} [Imm α] (hm : X.mg "list" = none) (hg : Gl X "list") (sb : Stb W R) (n : NS a) (h : EV X W R a f) : EVf X W R (.Call (.Name "list" p) [a] [] pos) (fun g => f g >>= fun x => pure (Ls.mk x)) := fun g s y s' r σ H hR hW Q q => by
  obtain ⟨z0, s1, e0, r⟩ := run_bind_some r
  obtain ⟨rfl, rfl⟩ := run_pure_some r
  refine ty_run call_list_of hg hm (by decide +kernel) (ns1 n) (by decide) (by decide) (A1_run sb n h e0 hR hW fun v H1 g1 w1 p1 => ?_)
  obtain ⟨t, xs, rfl, hz, hs, hx⟩ := p1.tup_inv
  exact ⟨t, xs, rfl, .inr hs, fun l hl => q _ _ (g1.trans (.new hl)) (W.new w1 hl) (.obj (fun z => g1.ex l z hl) (.lst hz upd_same ((hx.mono (.new hl)).any (immDs_map z0))))⟩
theorem E_listL {f : γ → m (Ls α)} [Imm α] (hm : X.mg "list" = none) (hg : Gl X "list") (sb : Stb W R) (n : NS a) (h : EV X W R a f) : EVf X W R (.Call (.Name "list" p) [a] [] pos) f := fun g s y s' r σ H hR hW Q q => by
  refine ty_run call_list_of hg hm (by decide +kernel) (ns1 n) (by decide) (by decide) (A1_run sb n h r hR hW fun v H1 g1 w1 p1 => ?_)
  obtain ⟨t, xs, rfl, hn, hz, hs, hx⟩ := p1.lst_inv
  exact ⟨t, xs, rfl, .inl (.of hs), fun l hl => q _ _ (g1.trans (.new hl)) (W.new w1 hl) (.obj (fun z => g1.ex l z hl) (.lst hz upd_same ((hx.mono (.new hl)).any (immDs_map y.l))))⟩
end
end
end TC

namespace TC
open PySem PySem.Spec PyProof.Rows L2
open Py (enc)

/-! ### how a block changes the heap -/
structure Tr (Av O : Addr → Prop) (H : Hp) (O1 : Addr → Prop) (H1 : Hp) : Prop where
  g : gr (fun a => Av a ∨ O a) H H1
  own : ∀ a, O1 a → O a ∨ H a = none
theorem Tr.refl {Av O : Addr → Prop} {H : Hp} : Tr Av O H O H := ⟨.refl _ _, fun _ h => .inl h⟩
theorem Tr.trans {Av O O1 O2 : Addr → Prop} {H H1 H2 : Hp} (a : Tr Av O H O1 H1) (b : Tr Av O1 H1 O2 H2) : Tr Av O H O2 H2 where
  g := by
    refine ⟨fun c o e i => b.g.kp c o (a.g.kp c o e i) fun z => ?_, fun c h => b.g.ex c (a.g.ex c h)⟩
    rcases z with z | z
    · exact i (.inl z)
    · rcases a.own c z with z | z
      · exact i (.inr z)
      · rw [z] at e; cases e
  own := fun c z => by
    rcases b.own c z with z | z
    · exact a.own c z
    · right
      cases q : H c with
      | none => rfl
      | some o => exact absurd z (a.g.ex c (by rw [q]; simp))
theorem Tr.of_gr {Av O : Addr → Prop} {H H1 : Hp} (g : gr Av H H1) : Tr Av O H O H1 := ⟨g.mono fun _ z => .inl z, fun _ z => .inl z⟩

/-! ### slots that change -/
section
variable {K : PySem.W.Frag} {Av : Addr → Prop} {H0 H H' : Hp} {γ δ : Type} {ss : List (SK γ)} {g : γ} {σ : Sg}
theorem cm_get {π : δ → γ} {i : Nat} {k : SK δ} (h : (ss.map (SK.cm π))[i]? = some k) : ∃ k', ss[i]? = some k' ∧ k = k'.cm π := by
  rw [List.getElem?_map] at h
  cases q : ss[i]? with
  | none => rw [q] at h; cases h
  | some k' => rw [q] at h; cases h; exact ⟨k', rfl, rfl⟩
theorem Own.cm {π : δ → γ} {a : Addr} (h : Own (ss.map (SK.cm π)) σ a) : Own ss σ a := by
  obtain ⟨i, d, h1, h2⟩ := h
  obtain ⟨k', e1, e2⟩ := cm_get h1
  cases k' with
  | u => cases e2
  | k _ => cases e2
  | v _ => cases e2
  | o d' => exact ⟨i, d', e1, h2⟩
theorem Rr.cm (r : Rr K Av H0 ss g σ H) (π : δ → γ) {g' : δ} (e : π g' = g) : Rr K Av H0 (ss.map (SK.cm π)) g' σ H := by
  subst e
  refine ⟨r.base, by rw [List.length_map]; exact r.len, fun i k o h1 h2 => ?_, fun i j d e a h1 h2 h3 h4 => ?_⟩
  · obtain ⟨k', e1, rfl⟩ := cm_get h1
    have h := r.slot i k' o e1 h2
    have sub : ∀ a, (Av a ∨ Own (ss.map (SK.cm π)) σ a) → (Av a ∨ Own ss σ a) := fun a z => z.imp id Own.cm
    cases k' with
    | u => trivial
    | k w => exact h
    | v d =>
      obtain ⟨v, e, p⟩ := h
      exact ⟨v, e, p.weak sub⟩
    | o d =>
      obtain ⟨a, e, p, q⟩ := h
      exact ⟨a, e, p.chg fun b z _ => sub b z, q⟩
  · obtain ⟨k1, e1, q1⟩ := cm_get h1
    obtain ⟨k2, e2, q2⟩ := cm_get h2
    cases k1 <;> cases q1
    cases k2 <;> cases q2
    exact r.one i j _ _ a e1 e2 h3 h4
/-- a slot forgotten -/
theorem Rr.setv (r : Rr K Av H0 ss g σ H) (i : Nat) (d : γ → PyData) {v : V} (p : Rp K (fun a => Av a ∨ Own ss σ a) H v (d g)) : Rr K Av H0 (ss.set i (.v d)) g (σ.set i (some v)) H := by
  have own : ∀ a, Own (ss.set i (.v d)) (σ.set i (some v)) a → Own ss σ a := fun a ⟨j, e, h1, h2⟩ => by
    by_cases hj : i = j
    · subst hj
      rw [List.getElem?_set] at h1
      split at h1
      · split at h1 <;> cases h1
      · rename_i c; exact absurd rfl c
    · rw [List.getElem?_set_ne hj] at h1 h2
      exact ⟨j, e, h1, h2⟩
  refine ⟨r.base, by rw [List.length_set, List.length_set]; exact r.len, fun j k o h1 h2 => ?_, fun j l e f a h1 h2 h3 h4 => ?_⟩
  · by_cases hj : i = j
    · subst hj
      rw [List.getElem?_set_self' ] at h1 h2
      cases q1 : ss[i]? with
      | none => rw [q1] at h1; cases h1
      | some _ =>
        cases q2 : σ[i]? with
        | none => rw [q2] at h2; cases h2
        | some _ =>
          rw [q1] at h1; rw [q2] at h2
          cases h1; cases h2
          exact ⟨v, rfl, p.weak fun a z => z.imp id (own a)⟩
    · rw [List.getElem?_set_ne hj] at h1 h2
      have h := r.slot j k o h1 h2
      cases k with
      | u => trivial
      | k w => exact h
      | v e =>
        obtain ⟨w, e, p⟩ := h
        exact ⟨w, e, p.weak fun a z => z.imp id (own a)⟩
      | o e =>
        obtain ⟨a, e, p, q⟩ := h
        exact ⟨a, e, p.chg fun b z _ => z.imp id (own b), q⟩
  · have hj : i ≠ j := fun c => by
      subst c
      rw [List.getElem?_set_self'] at h1
      cases q1 : ss[i]? with
      | none => rw [q1] at h1; cases h1
      | some _ => rw [q1] at h1; cases h1
    have hl : i ≠ l := fun c => by
      subst c
      rw [List.getElem?_set_self'] at h2
      cases q1 : ss[i]? with
      | none => rw [q1] at h2; cases h2
      | some _ => rw [q1] at h2; cases h2
    rw [List.getElem?_set_ne hj] at h1 h3
    rw [List.getElem?_set_ne hl] at h2 h4
    exact r.one j l e f a h1 h2 h3 h4
theorem Own.setv {i : Nat} {d : γ → PyData} {o : Option V} {a : Addr} (h : Own (ss.set i (.v d)) (σ.set i o) a) : Own ss σ a := by
  obtain ⟨j, e, h1, h2⟩ := h
  by_cases hj : i = j
  · subst hj
    rw [List.getElem?_set_self'] at h1
    cases q1 : ss[i]? with
    | none => rw [q1] at h1; cases h1
    | some _ => rw [q1] at h1; cases h1
  · rw [List.getElem?_set_ne hj] at h1 h2
    exact ⟨j, e, h1, h2⟩
theorem Own.seto {i : Nat} {d : γ → PyData} {b a : Addr} (h : Own (ss.set i (.o d)) (σ.set i (some (.ref b))) a) : Own ss σ a ∨ a = b := by
  obtain ⟨j, e, h1, h2⟩ := h
  by_cases hj : i = j
  · subst hj
    rw [List.getElem?_set_self'] at h2
    cases q1 : σ[i]? with
    | none => rw [q1] at h2; cases h2
    | some _ => rw [q1] at h2; cases h2; exact .inr rfl
  · rw [List.getElem?_set_ne hj] at h1 h2
    exact .inl ⟨j, e, h1, h2⟩
/-- a slot gets a list or dict of its own -/
theorem Rr.seto (r : Rr K Av H0 ss g σ H) (i : Nat) (d : γ → PyData) {b : Addr} (nb : ¬ Own ss σ b) (vb : ∀ (j : Nat) (k : SK γ) (o : Option V), ss[j]? = some k → σ[j]? = some o → slotR K Av (fun a => (Av a ∨ Own ss σ a) ∨ a = b) H0 H k g o)
    (p : RpO K (fun a => (Av a ∨ Own ss σ a) ∨ a = b) H b (d g)) (n0 : H0 b = none) (nA : ¬ Av b) (x : ∃ x, H b = some x ∧ ¬ immO x) : Rr K Av H0 (ss.set i (.o d)) g (σ.set i (some (.ref b))) H := by
  have own : ∀ a, (Av a ∨ Own (ss.set i (.o d)) (σ.set i (some (.ref b))) a) → ((Av a ∨ Own ss σ a) ∨ a = b) := fun a z => by
    rcases z with z | z
    · exact .inl (.inl z)
    · exact (Own.seto z).imp .inr id
  refine ⟨r.base, by rw [List.length_set, List.length_set]; exact r.len, fun j k o h1 h2 => ?_, fun j l e f a h1 h2 h3 h4 => ?_⟩
  · by_cases hj : i = j
    · subst hj
      rw [List.getElem?_set_self' ] at h1 h2
      cases q1 : ss[i]? with
      | none => rw [q1] at h1; cases h1
      | some _ =>
        cases q2 : σ[i]? with
        | none => rw [q2] at h2; cases h2
        | some _ =>
          rw [q1] at h1; rw [q2] at h2
          cases h1; cases h2
          exact ⟨b, rfl, p.chg fun a z _ => own a z, n0, nA, x⟩
    · rw [List.getElem?_set_ne hj] at h1 h2
      have h := vb j k o h1 h2
      cases k with
      | u => trivial
      | k w => exact h
      | v e =>
        obtain ⟨w, e, p⟩ := h
        exact ⟨w, e, p.weak own⟩
      | o e =>
        obtain ⟨a, e, p, q⟩ := h
        exact ⟨a, e, p.chg fun b z _ => own b z, q⟩
  · have at_i : ∀ {o : Option V}, (σ.set i (some (.ref b)))[i]? = some o → o = some (.ref b) := fun {o} h => by
      rw [List.getElem?_set_self'] at h
      cases q1 : σ[i]? with
      | none => rw [q1] at h; cases h
      | some _ => rw [q1] at h; cases h; rfl
    by_cases hj : i = j
    · by_cases hl : i = l
      · rw [← hj, hl]
      · subst hj
        rw [List.getElem?_set_ne hl] at h2 h4
        have := at_i h3
        cases this
        exact absurd ⟨l, f, h2, h4⟩ nb
    · by_cases hl : i = l
      · subst hl
        rw [List.getElem?_set_ne hj] at h1 h3
        have := at_i h4
        cases this
        exact absurd ⟨j, e, h1, h3⟩ nb
      · rw [List.getElem?_set_ne hj] at h1 h3
        rw [List.getElem?_set_ne hl] at h2 h4
        exact r.one j l e f a h1 h2 h3 h4
end

/-! ### less is known -/
inductive LeS {γ δ : Type} (π : γ → δ) : List (SK δ) → List (SK γ) → Prop
  | nil : LeS π [] []
  | u {k : SK γ} {as : List (SK δ)} {bs : List (SK γ)} : LeS π as bs → LeS π (.u :: as) (k :: bs)
  | v {d : δ → PyData} {d' : γ → PyData} {as : List (SK δ)} {bs : List (SK γ)} : (∀ g, d (π g) = d' g) → LeS π as bs → LeS π (.v d :: as) (.v d' :: bs)
  | o {d : δ → PyData} {d' : γ → PyData} {as : List (SK δ)} {bs : List (SK γ)} : (∀ g, d (π g) = d' g) → LeS π as bs → LeS π (.o d :: as) (.o d' :: bs)
  | k {v : V} {as : List (SK δ)} {bs : List (SK γ)} : LeS π as bs → LeS π (.k v :: as) (.k v :: bs)
  | ov {d : δ → PyData} {d' : γ → PyData} {as : List (SK δ)} {bs : List (SK γ)} : (∀ g, d (π g) = d' g) → LeS π as bs → LeS π (.v d :: as) (.o d' :: bs)
section
variable {K : PySem.W.Frag} {Av : Addr → Prop} {H0 H H' : Hp} {γ δ : Type} {g : γ} {σ : Sg} {π : γ → δ}
theorem LeS.length : ∀ {as : List (SK δ)} {bs : List (SK γ)}, LeS π as bs → as.length = bs.length
  | _, _, .nil => rfl
  | _, _, .u t => by simp [t.length]
  | _, _, .v _ t => by simp [t.length]
  | _, _, .o _ t => by simp [t.length]
  | _, _, .ov _ t => by simp [t.length]
  | _, _, .k t => by simp [t.length]
theorem LeS.get : ∀ {as : List (SK δ)} {bs : List (SK γ)} {i : Nat} {k : SK δ}, LeS π as bs → as[i]? = some k → ∃ k', bs[i]? = some k' ∧ match k with
    | .u => True
    | .v d => (∃ d', k' = .v d' ∧ ∀ g, d (π g) = d' g) ∨ ∃ d', k' = .o d' ∧ ∀ g, d (π g) = d' g
    | .o d => ∃ d', k' = .o d' ∧ ∀ g, d (π g) = d' g
    | .k z => k' = .k z
  | _, _, _, _, .nil, h => by simp at h
  | _, _, 0, _, .u t, h => by simp at h; subst h; exact ⟨_, rfl, trivial⟩
  | _, _, 0, _, .v e t, h => by simp at h; subst h; exact ⟨_, rfl, .inl ⟨_, rfl, e⟩⟩
  | _, _, 0, _, .o e t, h => by simp at h; subst h; exact ⟨_, rfl, _, rfl, e⟩
  | _, _, 0, _, .ov e t, h => by simp at h; subst h; exact ⟨_, rfl, .inr ⟨_, rfl, e⟩⟩
  | _, _, i + 1, _, .u t, h => by obtain ⟨k', h1, h2⟩ := t.get (i := i) (by simpa using h); exact ⟨k', by simpa using h1, h2⟩
  | _, _, i + 1, _, .v _ t, h => by obtain ⟨k', h1, h2⟩ := t.get (i := i) (by simpa using h); exact ⟨k', by simpa using h1, h2⟩
  | _, _, i + 1, _, .o _ t, h => by obtain ⟨k', h1, h2⟩ := t.get (i := i) (by simpa using h); exact ⟨k', by simpa using h1, h2⟩
  | _, _, 0, _, .k t, h => by simp at h; subst h; exact ⟨_, rfl, rfl⟩
  | _, _, i + 1, _, .k t, h => by obtain ⟨k', h1, h2⟩ := t.get (i := i) (by simpa using h); exact ⟨k', by simpa using h1, h2⟩
  | _, _, i + 1, _, .ov _ t, h => by obtain ⟨k', h1, h2⟩ := t.get (i := i) (by simpa using h); exact ⟨k', by simpa using h1, h2⟩
theorem LeS.own {as : List (SK δ)} {bs : List (SK γ)} (h : LeS π as bs) {a : Addr} (q : Own as σ a) : Own bs σ a := by
  obtain ⟨i, d, h1, h2⟩ := q
  obtain ⟨k', e1, d', e2, _⟩ := h.get h1
  subst e2
  exact ⟨i, d', e1, h2⟩
theorem Rr.le {as : List (SK δ)} {bs : List (SK γ)} (h : LeS π as bs) (r : Rr K Av H0 bs g σ H) : Rr K Av H0 as (π g) σ H := by
  have sub : ∀ a, (Av a ∨ Own as σ a) → (Av a ∨ Own bs σ a) := fun a z => z.imp id h.own
  refine ⟨r.base, by rw [h.length]; exact r.len, fun i k o h1 h2 => ?_, fun i j d e a h1 h2 h3 h4 => ?_⟩
  · obtain ⟨k', e1, q⟩ := h.get h1
    have s := r.slot i k' o e1 h2
    cases k with
    | u => trivial
    | k w => subst q; exact s
    | v d =>
      rcases q with ⟨d', rfl, e⟩ | ⟨d', rfl, e⟩
      · obtain ⟨v, ev, p⟩ := s
        exact ⟨v, ev, by rw [e]; exact p.weak sub⟩
      · obtain ⟨b, ev, p, n0, nA, x⟩ := s
        refine ⟨.ref b, ev, .obj ?_ (by rw [e]; exact p.chg fun b z _ => sub b z)⟩
        rintro (z | ⟨j, d2, z1, z2⟩)
        · exact nA z
        · obtain ⟨k2, f1, d3, f2, f3⟩ := h.get z1
          subst f2
          rw [ev] at h2
          have := r.one j i _ _ b f1 e1 z2 h2
          subst this
          rw [h1] at z1
          cases z1
    | o d =>
      obtain ⟨d', rfl, e⟩ := q
      obtain ⟨b, ev, p, r1⟩ := s
      exact ⟨b, ev, by rw [e]; exact p.chg fun b z _ => sub b z, r1⟩
  · obtain ⟨k1, f1, d1, rfl, _⟩ := h.get h1
    obtain ⟨k2, f2, d2, rfl, _⟩ := h.get h2
    exact r.one i j _ _ a f1 f2 h3 h4
/-- more, or fewer, addresses are avoided -/
theorem Rr.av {Av' : Addr → Prop} {ss : List (SK γ)} (r : Rr K Av H0 ss g σ H) (h : ∀ a, Av' a → Av a ∨ H a = none) (h0 : ∀ a, Av a → Av' a ∨ H0 a = none) : Rr K Av' H0 ss g σ H := by
  refine ⟨⟨fun a o e i => r.base.kp a o e fun z => ?_, r.base.ex⟩, r.len, fun i k o h1 h2 => ?_, r.one⟩
  · rcases h0 a z with z | z
    · exact i z
    · rw [z] at e; cases e
  · have s := r.slot i k o h1 h2
    have sub : ∀ a, (Av' a ∨ Own ss σ a) → H a ≠ none → (Av a ∨ Own ss σ a) := fun a z q => by
      rcases z with z | z
      · rcases h a z with z | z
        · exact .inl z
        · exact absurd z q
      · exact .inr z
    cases k with
    | u => trivial
    | k w => exact s
    | v d =>
      obtain ⟨v, e, p⟩ := s
      exact ⟨v, e, p.chg sub⟩
    | o d =>
      obtain ⟨a, e, p, n0, nA, x, hx, mx⟩ := s
      refine ⟨a, e, p.chg sub, n0, fun z => ?_, x, hx, mx⟩
      rcases h a z with z | z
      · exact nA z
      · rw [hx] at z; cases z
end
end TC

namespace TC
open PySem PySem.Spec PyProof.Rows L2
open Py (enc)

/-! ### blocks and statements -/
abbrev Nd (S τ : Type) := τ → S → (Addr → Prop) → Hp → Ends → Prop
inductive Fl (δ ρ : Type) where
  | nx (d : δ)
  | rt (x : ρ)
section
variable {S : Type} {m : Type → Type} [Monad m] [MR m S] {γ δ τ ρ α β : Type} [Py α] [Py β] [Py ρ]
def BJ (X : Cx) (W : Wd S) (H0 : Hp) (ss : List (SK γ)) (stmts : List Stmt) (f : γ → m τ) (N : γ → Nd S τ) : Prop :=
  ∀ g s t s', MR.run (f g) s = some (t, s') → ∀ σ H, Rr X.K W.Av H0 ss g σ H → W.WI s H → ∀ D, N g t s' (Own ss σ) H D → wSs X stmts D σ H
def SN (X : Cx) (W : Wd S) (H0 : Hp) (ss : List (SK γ)) (st : Stmt) (ss' : List (SK (γ × δ))) (f : γ → m δ) : Prop :=
  ∀ g s d s', MR.run (f g) s = some (d, s') → ∀ σ H, Rr X.K W.Av H0 ss g σ H → W.WI s H → ∀ D : Ends, (∀ σ' H', Tr W.Av (Own ss σ) H (Own ss' σ') H' → W.WI s' H' → Rr X.K W.Av H0 ss' (g, d) σ' H' → D.nx σ' H') → wS X st D σ H
def NdR (X : Cx) (W : Wd S) (H0 : Hp) (ρ : Type) [Py ρ] : Nd S ρ := fun x s' _ _ D => ∀ v H', gr W.Av H0 H' → W.WI s' H' → Rp X.K (fun a => H0 a ≠ none) H' v (enc x) → D.rt v H'
def NdN (X : Cx) (W : Wd S) (H0 : Hp) (ss' : List (SK (γ × δ))) (g : γ) : Nd S δ := fun d s' O H D => ∀ σ' H', Tr W.Av O H (Own ss' σ') H' → W.WI s' H' → Rr X.K W.Av H0 ss' (g, d) σ' H' → D.nx σ' H'
def NdF (X : Cx) (W : Wd S) (H0 : Hp) (ss' : List (SK (γ × δ))) (ρ : Type) [Py ρ] (g : γ) : Nd S (Fl δ ρ) := fun t s' O H D => match t with
  | .nx d => NdN X W H0 ss' g d s' O H D
  | .rt x => NdR X W H0 ρ x s' O H D
def NdMono (W : Wd S) (N : γ → Nd S τ) : Prop := ∀ g t s' O H D O1 H1, Tr W.Av O H O1 H1 → N g t s' O H D → N g t s' O1 H1 D
variable {X : Cx} {W : Wd S} {H0 : Hp} {ss : List (SK γ)} {N : γ → Nd S τ} {e a b c : Expr} {st : Stmt} {rest body : List Stmt} {pos : Pos}
theorem NdR.mono : NdMono W (fun _ : γ => NdR X W H0 ρ) := fun _ _ _ _ _ _ _ _ _ h => h
theorem NdN.mono {ss' : List (SK (γ × δ))} {ε : Type} {π : ε → γ} : NdMono W (fun g : ε => NdN X W H0 ss' (π g)) := fun g d s' O H D O1 H1 t h σ' H' t' w r => h σ' H' (t.trans t') w r
theorem NdF.mono {ss' : List (SK (γ × δ))} {ε : Type} {π : ε → γ} : NdMono W (fun g : ε => NdF X W H0 ss' ρ (π g)) := fun g d s' O H D O1 H1 t h => by
  cases d with
  | nx d => exact fun σ' H' t' w r => h σ' H' (t.trans t') w r
  | rt x => exact h
/-- one statement, then others -/
theorem B_seq {ss' : List (SK (γ × δ))} {f : γ → m δ} {r : γ → δ → m τ} (h : SN X W H0 ss st ss' f) (hr : BJ X W H0 ss' rest (fun g' => r g'.1 g'.2) (fun g' => N g'.1)) (hN : NdMono W N) :
    BJ X W H0 ss (st :: rest) (fun g => f g >>= fun d => r g d) N := fun g s t s' rn σ H hR hW D nd => by
  obtain ⟨d, s1, h1, h2⟩ := run_bind_some rn
  refine wSs.of (pss_cons (psW st) (pssW rest)) (h g s d s1 h1 σ H hR hW _ fun σ' H' t' w r' => ?_)
  exact hr (g, d) s1 t s' h2 σ' H' r' w D (hN _ _ _ _ _ _ _ _ t' nd)
/-- the end of a block -/
theorem B_end {ε : Type} {ss' : List (SK (δ × ε))} {π : γ → δ} {out : γ → ε} (le : LeS (fun g => (π g, out g)) ss' ss) : BJ X W H0 ss [] (fun g => (pure (out g) : m ε)) (fun g => NdN X W H0 ss' (π g)) := fun g s t s' rn σ H hR hW D nd => by
  obtain ⟨rfl, rfl⟩ := run_pure_some rn
  exact wSs.of pss_nil (nd σ H ⟨.refl _ _, fun a z => .inl (le.own z)⟩ hW (Rr.le (π := fun g => (π g, out g)) le hR))
theorem B_endF {ε : Type} {ss' : List (SK (δ × ε))} {π : γ → δ} {out : γ → ε} (le : LeS (fun g => (π g, out g)) ss' ss) : BJ X W H0 ss [] (fun g => (pure (.nx (out g)) : m (Fl ε ρ))) (fun g => NdF X W H0 ss' ρ (π g)) := fun g s t s' rn σ H hR hW D nd => by
  obtain ⟨rfl, rfl⟩ := run_pure_some rn
  exact wSs.of pss_nil (nd σ H ⟨.refl _ _, fun a z => .inl (le.own z)⟩ hW (Rr.le (π := fun g => (π g, out g)) le hR))
/-- return e -/
theorem B_ret {f : γ → m ρ} (h : EVf X W (Rr X.K W.Av H0 ss) e f) : BJ X W H0 ss (.Return (some e) pos :: rest) f (fun _ => NdR X W H0 ρ) := fun g s t s' rn σ H hR hW D nd =>
  wSs.of (pss_cons (ps_ret (peW e)) (pssW rest)) (h g s t s' rn σ H hR hW _ fun v H' g1 w1 p => nd v H' (hR.base.trans g1) w1 (p.weak fun a z => hR.base.ex a z))
theorem B_retI [Imm ρ] {f : γ → m ρ} (h : EV X W (Rr X.K W.Av H0 ss) e f) : BJ X W H0 ss (.Return (some e) pos :: rest) f (fun _ => NdR X W H0 ρ) := B_ret h.f
theorem B_retF {ss' : List (SK (δ × α))} {π : γ → δ} {f : γ → m ρ} (h : EVf X W (Rr X.K W.Av H0 ss) e f) : BJ X W H0 ss (.Return (some e) pos :: rest) (fun g => f g >>= fun x => pure (.rt x)) (fun g => NdF X W H0 ss' ρ (π g)) := fun g s t s' rn σ H hR hW D nd => by
  obtain ⟨x, s1, h1, h2⟩ := run_bind_some rn
  obtain ⟨rfl, rfl⟩ := run_pure_some h2
  exact B_ret (rest := rest) h g s x s1 h1 σ H hR hW D nd
/-- a list or dict of the def's own handed back -/
theorem B_retO {x : Str} {p : Pos} (i : Nat) {f : γ → Ls α} [Imm α] (hk : ss[i]? = some (.o fun g => enc (f g)))
    (hN : X.N[i]? = some x) (hv : Vis X.env.scope x) (hd : (x == ("__debug__" : Str)) = false) (hcd : (x == ("__classdict__" : Str)) = false) :
    BJ X W H0 ss (.Return (some (.Name x p)) pos :: rest) (fun g => (pure (f g) : m (Ls α))) (fun _ => NdR X W H0 (Ls α)) := fun g s t s' rn σ H hR hW D nd => by
  obtain ⟨rfl, rfl⟩ := run_pure_some rn
  have hi : i < ss.length := (List.getElem?_eq_some_iff.mp hk).1
  obtain ⟨w, hs⟩ : ∃ w, σ[i]? = some w := ⟨_, List.getElem?_eq_getElem (show i < σ.length by rw [← hR.len]; exact hi)⟩
  obtain ⟨a, rfl, q, n0, nA, _⟩ := hR.slot i _ _ hk hs
  refine wSs.of (pss_cons (ps_ret (pe_var hN hv hd hcd)) (pssW rest)) ⟨_, hs, nd _ H hR.base hW (.obj (fun z => z n0) ?_)⟩
  cases q with | lst z h t => exact .lst z h (t.any (immDs_map (f g).l))
/-- if c: (a return) -/
theorem B_if1 {t : γ → m Bool} {fa : γ → m ρ} {r : γ → m ρ} (hc : TV X W (Rr X.K W.Av H0 ss) c t) (hA : BJ X W H0 ss body fa (fun _ => NdR X W H0 ρ)) (hr : BJ X W H0 ss rest r (fun _ => NdR X W H0 ρ)) :
    BJ X W H0 ss (.If c body [] pos :: rest) (fun g => t g >>= fun b => if b = true then fa g else r g) (fun _ => NdR X W H0 ρ) := fun g s x s' rn σ H hR hW D nd => by
  obtain ⟨b, s1, h1, h2⟩ := run_bind_some rn
  refine wSs.of (pss_cons (ps_if (ptW c) (pssW body) pss_nil) (pssW rest)) (hc g s b s1 h1 σ H hR hW _ fun H' g1 w1 => ?_)
  cases b with
  | true =>
    simp only [if_true] at h2 ⊢
    exact hA g s1 x s' h2 σ H' (hR.st g1) w1 _ nd
  | false =>
    simp only [Bool.false_eq_true, if_false] at h2 ⊢
    exact hr g s1 x s' h2 σ H' (hR.st g1) w1 D nd
/-- .. within a loop's body -/
theorem B_if1F {ε : Type} {ss' : List (SK (δ × ε))} {π : γ → δ} {t : γ → m Bool} {fa : γ → m ρ} {r : γ → m (Fl ε ρ)} (hc : TV X W (Rr X.K W.Av H0 ss) c t) (hA : BJ X W H0 ss body fa (fun _ => NdR X W H0 ρ)) (hr : BJ X W H0 ss rest r (fun g => NdF X W H0 ss' ρ (π g))) :
    BJ X W H0 ss (.If c body [] pos :: rest) (fun g => t g >>= fun b => if b = true then fa g >>= fun x => pure (.rt x) else r g) (fun g => NdF X W H0 ss' ρ (π g)) := fun g s x s' rn σ H hR hW D nd => by
  obtain ⟨b, s1, h1, h2⟩ := run_bind_some rn
  refine wSs.of (pss_cons (ps_if (ptW c) (pssW body) pss_nil) (pssW rest)) (hc g s b s1 h1 σ H hR hW _ fun H' g1 w1 => ?_)
  cases b with
  | true =>
    simp only [if_true] at h2 ⊢
    obtain ⟨y, s2, h3, h4⟩ := run_bind_some h2
    obtain ⟨rfl, rfl⟩ := run_pure_some h4
    exact hA g s1 y s2 h3 σ H' (hR.st g1) w1 _ nd
  | false =>
    simp only [Bool.false_eq_true, if_false] at h2 ⊢
    exact hr g s1 x s' h2 σ H' (hR.st g1) w1 D (NdF.mono (π := π) g _ _ _ _ _ _ _ (.of_gr g1) nd)
/-- both ways return -/
theorem B_if2 {els : List Stmt} {t : γ → m Bool} {fa : γ → m ρ} {r : γ → m ρ} (hc : TV X W (Rr X.K W.Av H0 ss) c t) (hA : BJ X W H0 ss body fa (fun _ => NdR X W H0 ρ)) (hr : BJ X W H0 ss els r (fun _ => NdR X W H0 ρ)) :
    BJ X W H0 ss (.If c body els pos :: rest) (fun g => t g >>= fun b => if b = true then fa g else r g) (fun _ => NdR X W H0 ρ) := fun g s x s' rn σ H hR hW D nd => by
  obtain ⟨b, s1, h1, h2⟩ := run_bind_some rn
  refine wSs.of (pss_cons (ps_if (ptW c) (pssW body) (pssW els)) (pssW rest)) (hc g s b s1 h1 σ H hR hW _ fun H' g1 w1 => ?_)
  cases b with
  | true =>
    simp only [if_true] at h2 ⊢
    exact hA g s1 x s' h2 σ H' (hR.st g1) w1 _ nd
  | false =>
    simp only [Bool.false_eq_true, if_false] at h2 ⊢
    exact hr g s1 x s' h2 σ H' (hR.st g1) w1 _ nd
/-- both ways go on -/
theorem S_if {els : List Stmt} {ss' : List (SK (γ × δ))} {t : γ → m Bool} {fa : γ → m δ} {r : γ → m δ} (hc : TV X W (Rr X.K W.Av H0 ss) c t) (hA : BJ X W H0 ss body fa (fun g => NdN X W H0 ss' g)) (hr : BJ X W H0 ss els r (fun g => NdN X W H0 ss' g)) :
    SN X W H0 ss (.If c body els pos) ss' (fun g => t g >>= fun b => if b = true then fa g else r g) := fun g s x s' rn σ H hR hW D nd => by
  obtain ⟨b, s1, h1, h2⟩ := run_bind_some rn
  refine wS.of (ps_if (ptW c) (pssW body) (pssW els)) (hc g s b s1 h1 σ H hR hW _ fun H' g1 w1 => ?_)
  cases b with
  | true =>
    simp only [if_true] at h2 ⊢
    exact hA g s1 x s' h2 σ H' (hR.st g1) w1 _ fun σ' H' t' w' r' => nd σ' H' ((Tr.of_gr g1).trans t') w' r'
  | false =>
    simp only [Bool.false_eq_true, if_false] at h2 ⊢
    exact hr g s1 x s' h2 σ H' (hR.st g1) w1 _ fun σ' H' t' w' r' => nd σ' H' ((Tr.of_gr g1).trans t') w' r'

/-! ### stores -/
/-- a value of e's, new where it is a list or dict, in slot i -/
theorem Rr.put {g : γ} {σ : Sg} {H H1 : Hp} {s : S} {v : V} {x : α} (i : Nat) (hR : Rr X.K W.Av H0 ss g σ H) (hW : W.WI s H) (g1 : gr W.Av H H1) (p : Rp X.K (fun a => H a ≠ none) H1 v (enc x)) :
    Rr X.K W.Av H0 ((ss.map (SK.cm Prod.fst)).set i (.v fun g' : γ × α => enc g'.2)) (g, x) (σ.set i (some v)) H1 ∧ Tr W.Av (Own ss σ) H (Own ((ss.map (SK.cm Prod.fst)).set i (.v fun g' : γ × α => enc g'.2)) (σ.set i (some v))) H1 := by
  have r1 := ((hR.st g1).cm (Prod.fst : γ × α → γ) (g' := (g, x)) rfl)
  refine ⟨r1.setv i (fun g' => enc g'.2) (p.weak fun a z => ?_), (Tr.of_gr g1).g, fun a z => .inl (Own.cm (Own.setv z))⟩
  rcases z with z | z
  · exact W.old s H a hW z
  · exact (hR.ownS (Own.cm z)).1
theorem S_asg {x : Str} {px : Pos} (i : Nat) {f : γ → m α} (he : EVf X W (Rr X.K W.Av H0 ss) e f) (hN : X.N.Nodup) (hi : X.N[i]? = some x) (hx : Loc X.env.scope x) (hs : swapsWith e (some (.Name x px)) pos.line X.env = pure false) (hf : X.fn x = true) :
    SN X W H0 ss (.Assign [.Name x px] e pos) ((ss.map (SK.cm Prod.fst)).set i (.v fun g' : γ × α => enc g'.2)) f := fun g s y s' rn σ H hR hW D nd =>
  wS.of (ps_set hN hi hx (peW e) hs (.inl hf)) (he g s y s' rn σ H hR hW _ fun v H1 g1 w1 p => by
    obtain ⟨r, t⟩ := Rr.put i hR hW g1 p
    exact nd _ H1 t w1 r)
theorem Rr.putO {g : γ} {σ : Sg} {H H1 : Hp} {s : S} {v : V} {x : Ls α} (i : Nat) (hR : Rr X.K W.Av H0 ss g σ H) (hW : W.WI s H) (g1 : gr W.Av H H1) (p : Rp X.K (fun a => H a ≠ none) H1 v (enc x)) [Imm α] :
    Rr X.K W.Av H0 ((ss.map (SK.cm Prod.fst)).set i (.o fun g' : γ × Ls α => enc g'.2)) (g, x) (σ.set i (some v)) H1 ∧ Tr W.Av (Own ss σ) H (Own ((ss.map (SK.cm Prod.fst)).set i (.o fun g' : γ × Ls α => enc g'.2)) (σ.set i (some v))) H1 := by
  have r1 := ((hR.st g1).cm (Prod.fst : γ × Ls α → γ) (g' := (g, x)) rfl)
  obtain ⟨b, xs, rfl, nb, hz, hb, hx⟩ := p.lst_inv
  have nb' : H b = none := by
    cases q : H b with
    | none => rfl
    | some o => exact absurd (by rw [q]; simp) nb
  have nown : ¬ Own ss σ b := fun z => (hR.ownS z).1 nb'
  have nAv : ¬ W.Av b := fun z => W.old s H b hW z nb'
  have n0 : H0 b = none := by
    cases q : H0 b with
    | none => rfl
    | some o => exact absurd nb' (hR.base.ex b (by rw [q]; simp))
  refine ⟨r1.seto i (fun g' => enc g'.2) (fun z => nown (Own.cm z)) (fun j k o h1 h2 => ?_) (.lst hz hb (hx.any (immDs_map x.l))) n0 nAv ⟨_, hb, fun z => z⟩, (Tr.of_gr g1).g, fun a z => ?_⟩
  · -- what the other slots hold is older than b
    obtain ⟨k', e1, rfl⟩ := cm_get h1
    have s := hR.slot j k' o e1 h2
    have sub : ∀ a, (W.Av a ∨ Own (ss.map (SK.cm (Prod.fst : γ × Ls α → γ))) σ a) ∨ a = b → H a ≠ none → (W.Av a ∨ Own ss σ a) := fun a z q => by
      rcases z with z | rfl
      · exact z.imp id Own.cm
      · exact absurd nb' q
    have gB : gr (fun a => (W.Av a ∨ Own (ss.map (SK.cm (Prod.fst : γ × Ls α → γ))) σ a) ∨ a = b) H H1 := g1.mono fun a z => .inl (.inl z)
    cases k' with
    | u => trivial
    | k w => exact s
    | v d =>
      obtain ⟨w, e, p⟩ := s
      exact ⟨w, e, (p.chg sub).mono gB⟩
    | o d =>
      obtain ⟨a, e, p, n0, nA, y, hy, my⟩ := s
      exact ⟨a, e, (p.chg sub).mono2 gB g1 nA, n0, nA, y, g1.immO hy nA, my⟩
  · rcases Own.seto z with z | rfl
    · exact .inl (Own.cm z)
    · exact .inr nb'
theorem S_asgO {x : Str} {px : Pos} (i : Nat) {f : γ → m (Ls α)} [Imm α] (he : EVf X W (Rr X.K W.Av H0 ss) e f) (hN : X.N.Nodup) (hi : X.N[i]? = some x) (hx : Loc X.env.scope x) (hs : swapsWith e (some (.Name x px)) pos.line X.env = pure false) (hf : X.fn x = true) :
    SN X W H0 ss (.Assign [.Name x px] e pos) ((ss.map (SK.cm Prod.fst)).set i (.o fun g' : γ × Ls α => enc g'.2)) f := fun g s y s' rn σ H hR hW D nd =>
  wS.of (ps_set hN hi hx (peW e) hs (.inl hf)) (he g s y s' rn σ H hR hW _ fun v H1 g1 w1 p => by
    obtain ⟨r, t⟩ := Rr.putO i hR hW g1 p
    exact nd _ H1 t w1 r)

/-! targets -/
def wG (X : Cx) (tg : Expr) : TG := fun v σ H Q => ∀ pins s u, Inv X pins σ H s → RelV v u → wpAny (model X.prog X.w) X.A (assign tg X.env u) (fun _ s' => ∃ σ' H', Inv X pins σ' H' s' ∧ Q σ' H') X.xe s
theorem pgW (tg : Expr) : PG X tg (wG X tg) := ⟨fun pins s _ _ _ u _ I r h => h pins s u I r⟩
theorem wG.of {tg : Expr} {t : TG} (p : PG X tg t) {v : V} {σ : Sg} {H : Hp} {Q : Sg → Hp → Prop} (h : t v σ H Q) : wG X tg v σ H Q := fun pins s u I r => p.run pins s σ H v u Q I r h
def setAll : List (Nat × V) → Sg → Sg
  | [], σ => σ
  | (i, v) :: r, σ => setAll r (σ.set i (some v))
def setK {ε : Type} : List (Nat × (ε → PyData)) → List (SK ε) → List (SK ε)
  | [], ss => ss
  | (i, d) :: r, ss => setK r (ss.set i (.v d))
/-- the target takes data d apart: slot i gets its part -/
def TJ (X : Cx) (tg : Expr) (ups : List (Nat × (β → PyData))) : Prop :=
  ∀ v y σ H, Rp X.K (fun _ => True) H v (enc y : PyData) → ∀ Q : Sg → Hp → Prop, (∀ vs : List V, RpAll X.K (fun _ => True) H vs (ups.map fun u => u.2 y) → Q (setAll ((ups.map (·.1)).zip vs) σ) H) → wG X tg v σ H Q
theorem G_name {x : Str} {p : Pos} (i : Nat) (hN : X.N.Nodup) (hi : X.N[i]? = some x) (hx : Loc X.env.scope x) (hf : X.fn x = true ∨ X.env.scope.names.lookup x = some .local) : TJ (β := β) X (.Name x p) [(i, fun y => enc y)] := fun v y σ H p Q q =>
  wG.of (pg_name hN hi hx hf) (q [v] (.cons p .nil))
theorem Rr.setK {ε : Type} {g : ε} {K : PySem.W.Frag} {Av : Addr → Prop} : ∀ {ups : List (Nat × (ε → PyData))} {vs : List V} {ss : List (SK ε)} {σ : Sg} {H : Hp}, RpAll K (fun _ => True) H vs (ups.map fun u => u.2 g) → Rr K Av H0 ss g σ H →
    Rr K Av H0 (setK ups ss) g (setAll ((ups.map (·.1)).zip vs) σ) H ∧ ∀ a, Own (setK ups ss) (setAll ((ups.map (·.1)).zip vs) σ) a → Own ss σ a
  | [], _, _, _, _, _, r => ⟨r, fun _ z => z⟩
  | (i, d) :: ups, [], _, _, _, h, _ => nomatch h
  | (i, d) :: ups, v :: vs, ss, σ, H, .cons p t, r => by
    obtain ⟨r2, o2⟩ := Rr.setK (ups := ups) (vs := vs) t (r.setv i d (p.weak fun _ _ => trivial))
    exact ⟨r2, fun a z => Own.setv (o2 a z)⟩

/-- (a, b) = .. -/
theorem G_tup {es : List Expr} {k : Nat} {p : Pos} {n : Nat} {ups : List (Nat × (β → PyData))} {t : TGs} (hc : X.calm = true) (hp : PGs X es t) (hn : (assignEach es X.env).length = n := by rfl) (hst : (assignEach es X.env).findIdx? (·.1) = none := by rfl)
    (parts : ∀ y : β, ∃ ds, (enc y : PyData) = .tuple ds ∧ ds.length = n ∧ ∀ vs σ H (Q : Sg → Hp → Prop), RpAll X.K (fun _ => True) H vs ds → (∀ vs : List V, RpAll X.K (fun _ => True) H vs (ups.map fun u => u.2 y) → Q (setAll ((ups.map (·.1)).zip vs) σ) H) → t vs σ H Q) : TJ X (.Tuple es k p) ups := fun v y σ H p Q q => by
  obtain ⟨ds, e1, e2, e3⟩ := parts y
  rw [e1] at p
  obtain ⟨a, xs, rfl, hz, hs, hx⟩ := p.tup_inv
  exact wG.of (pg_tup hc hp hn hst) ⟨a, xs, rfl, hs, by rw [hx.length, e2], e3 xs σ H Q hx q⟩
theorem G_tup2 {x0 x1 : Str} {p0 p1 p : Pos} {k : Nat} (i0 i1 : Nat) (d0 d1 : β → PyData) (hc : X.calm = true) (hN : X.N.Nodup) (h0 : X.N[i0]? = some x0) (h1 : X.N[i1]? = some x1) (hx0 : Loc X.env.scope x0) (hx1 : Loc X.env.scope x1)
    (hf0 : X.fn x0 = true ∨ X.env.scope.names.lookup x0 = some .local) (hf1 : X.fn x1 = true ∨ X.env.scope.names.lookup x1 = some .local) (he : ∀ y : β, (enc y : PyData) = .tuple [d0 y, d1 y] := by intro y; rfl)
    (hn : (assignEach [.Name x0 p0, .Name x1 p1] X.env).length = 2 := by rfl) (hst : (assignEach [.Name x0 p0, .Name x1 p1] X.env).findIdx? (·.1) = none := by rfl) : TJ X (.Tuple [.Name x0 p0, .Name x1 p1] k p) [(i0, d0), (i1, d1)] :=
  G_tup hc (pgs_cons (pg_name hN h0 hx0 hf0) (pgs_cons (pg_name hN h1 hx1 hf1) pgs_nil)) hn hst fun y => ⟨_, he y, rfl, fun vs σ H Q r q => by
    cases r with | cons a r => cases r with | cons b r => cases r; exact ⟨_, _, rfl, _, _, rfl, rfl, q [_, _] (.cons a (.cons b .nil))⟩⟩
theorem G_tup3 {x0 x1 x2 : Str} {p0 p1 p2 p : Pos} {k : Nat} (i0 i1 i2 : Nat) (d0 d1 d2 : β → PyData) (hc : X.calm = true) (hN : X.N.Nodup) (h0 : X.N[i0]? = some x0) (h1 : X.N[i1]? = some x1) (h2 : X.N[i2]? = some x2) (hx0 : Loc X.env.scope x0) (hx1 : Loc X.env.scope x1) (hx2 : Loc X.env.scope x2)
    (hf0 : X.fn x0 = true ∨ X.env.scope.names.lookup x0 = some .local) (hf1 : X.fn x1 = true ∨ X.env.scope.names.lookup x1 = some .local) (hf2 : X.fn x2 = true ∨ X.env.scope.names.lookup x2 = some .local) (he : ∀ y : β, (enc y : PyData) = .tuple [d0 y, d1 y, d2 y] := by intro y; rfl)
    (hn : (assignEach [.Name x0 p0, .Name x1 p1, .Name x2 p2] X.env).length = 3 := by rfl) (hst : (assignEach [.Name x0 p0, .Name x1 p1, .Name x2 p2] X.env).findIdx? (·.1) = none := by rfl) : TJ X (.Tuple [.Name x0 p0, .Name x1 p1, .Name x2 p2] k p) [(i0, d0), (i1, d1), (i2, d2)] :=
  G_tup hc (pgs_cons (pg_name hN h0 hx0 hf0) (pgs_cons (pg_name hN h1 hx1 hf1) (pgs_cons (pg_name hN h2 hx2 hf2) pgs_nil))) hn hst fun y => ⟨_, he y, rfl, fun vs σ H Q r q => by
    cases r with | cons a r => cases r with | cons b r => cases r with | cons c r => cases r; exact ⟨_, _, rfl, _, _, rfl, _, _, rfl, rfl, q [_, _, _] (.cons a (.cons b (.cons c .nil)))⟩⟩
theorem G_tup4 {x0 x1 x2 x3 : Str} {p0 p1 p2 p3 p : Pos} {k : Nat} (i0 i1 i2 i3 : Nat) (d0 d1 d2 d3 : β → PyData) (hc : X.calm = true) (hN : X.N.Nodup) (h0 : X.N[i0]? = some x0) (h1 : X.N[i1]? = some x1) (h2 : X.N[i2]? = some x2) (h3 : X.N[i3]? = some x3)
    (hx0 : Loc X.env.scope x0) (hx1 : Loc X.env.scope x1) (hx2 : Loc X.env.scope x2) (hx3 : Loc X.env.scope x3)
    (hf0 : X.fn x0 = true ∨ X.env.scope.names.lookup x0 = some .local) (hf1 : X.fn x1 = true ∨ X.env.scope.names.lookup x1 = some .local) (hf2 : X.fn x2 = true ∨ X.env.scope.names.lookup x2 = some .local) (hf3 : X.fn x3 = true ∨ X.env.scope.names.lookup x3 = some .local) (he : ∀ y : β, (enc y : PyData) = .tuple [d0 y, d1 y, d2 y, d3 y] := by intro y; rfl)
    (hn : (assignEach [.Name x0 p0, .Name x1 p1, .Name x2 p2, .Name x3 p3] X.env).length = 4 := by rfl) (hst : (assignEach [.Name x0 p0, .Name x1 p1, .Name x2 p2, .Name x3 p3] X.env).findIdx? (·.1) = none := by rfl) :
    TJ X (.Tuple [.Name x0 p0, .Name x1 p1, .Name x2 p2, .Name x3 p3] k p) [(i0, d0), (i1, d1), (i2, d2), (i3, d3)] :=
  G_tup hc (pgs_cons (pg_name hN h0 hx0 hf0) (pgs_cons (pg_name hN h1 hx1 hf1) (pgs_cons (pg_name hN h2 hx2 hf2) (pgs_cons (pg_name hN h3 hx3 hf3) pgs_nil)))) hn hst fun y => ⟨_, he y, rfl, fun vs σ H Q r q => by
    cases r with | cons a r => cases r with | cons b r => cases r with | cons c r => cases r with | cons d r => cases r; exact ⟨_, _, rfl, _, _, rfl, _, _, rfl, _, _, rfl, rfl, q [_, _, _, _] (.cons a (.cons b (.cons c (.cons d .nil))))⟩⟩
/-- target = e -/
theorem S_asgT {tg : Expr} {ups : List (Nat × (β → PyData))} [Imm β] {f : γ → m β} (he : EV X W (Rr X.K W.Av H0 ss) e f) (ht : TJ X tg ups) (hs : swapsWithSole [tg] e pos.line X.env = pure false) (hw : swappedStores [tg] e X.env = pure none) (h1 : (assignEach [tg] X.env).map (·.2) = [assign tg X.env]) :
    SN X W H0 ss (.Assign [tg] e pos) (setK (ups.map fun u => (u.1, fun g' : γ × β => u.2 g'.2)) (ss.map (SK.cm Prod.fst))) f := fun g s y s' rn σ H hR hW D nd =>
  wS.of (ps_asg (peW e) (pgW tg) hs hw h1) (he g s y s' rn σ H hR hW _ fun v H1 g1 w1 p => ht v y σ H1 (p.any (Imm.imm y)) _ fun vs hv => by
    have r1 := ((hR.st g1).cm (Prod.fst : γ × β → γ) (g' := (g, y)) rfl)
    have hv' : RpAll X.K (fun _ => True) H1 vs ((ups.map fun u => (u.1, fun g' : γ × β => u.2 g'.2)).map fun u => u.2 (g, y)) := by rw [List.map_map]; exact hv
    obtain ⟨r2, o2⟩ := Rr.setK hv' r1
    have e1 : (ups.map fun u => (u.1, fun g' : γ × β => u.2 g'.2)).map (·.1) = ups.map (·.1) := by rw [List.map_map]; rfl
    rw [e1] at r2 o2
    exact nd _ H1 ⟨(Tr.of_gr g1).g, fun a z => .inl (Own.cm (o2 a z))⟩ w1 r2)
/-- x, y = a, b: plain local names -/
theorem S_par2 {x y : Str} {px py pt : Pos} {kt k2 : Nat} {pt2 : Pos} (i j : Nat) [Imm α] [Imm β] {fa : γ → m α} {fb : γ → m β} (n0 : NS a) (n1 : NS b) (ha : EV X W (Rr X.K W.Av H0 ss) a fa) (hb : EV X W (Rr X.K W.Av H0 ss) b fb)
    (hc : X.calm = true) (hN : X.N.Nodup) (hi : X.N[i]? = some x) (hj : X.N[j]? = some y) (hij : i ≠ j)
    (hx : X.env.scope.names.lookup x = some .local) (hy : X.env.scope.names.lookup y = some .local)
    (hw : swappedStores [.Tuple [.Name x px, .Name y py] kt pt] (.Tuple [a, b] k2 pt2) X.env = pure (some [x, y]))
    (hs : swapsWithSole [.Tuple [.Name x px, .Name y py] kt pt] (.Tuple [a, b] k2 pt2) pos.line X.env = pure false) :
    SN X W H0 ss (.Assign [.Tuple [.Name x px, .Name y py] kt pt] (.Tuple [a, b] k2 pt2) pos) (setK [(i, fun g' : γ × (α × β) => enc g'.2.1), (j, fun g' => enc g'.2.2)] (ss.map (SK.cm Prod.fst))) (fun g => fa g >>= fun x => fb g >>= fun y => pure (x, y)) := fun g s t s' rn σ H hR hW D nd => by
  obtain ⟨z0, s1, e0, rn⟩ := run_bind_some rn
  obtain ⟨z1, s2, e1, rn⟩ := run_bind_some rn
  obtain ⟨rfl, rfl⟩ := run_pure_some rn
  refine wS.of (ps_par hc hN hi hj hij hx hy (pa_cons (peW a) (pa_cons (peW b) pa_nil (n1 _ _)) (n0 _ _)) hw hs) ?_
  refine EV.two Rr.stb ha hb e0 e1 hR hW fun v u H1 g1 w1 p1 p2 => ⟨v, u, rfl, ?_⟩
  have r1 := ((hR.st g1).cm (Prod.fst : γ × (α × β) → γ) (g' := (g, (z0, z1))) rfl)
  obtain ⟨r2, o2⟩ := Rr.setK (ups := [(i, fun g' : γ × (α × β) => enc g'.2.1), (j, fun g' => enc g'.2.2)]) (vs := [v, u]) (.cons (p1.any (Imm.imm z0)) (.cons (p2.any (Imm.imm z1)) .nil)) r1
  exact nd _ H1 ⟨(Tr.of_gr g1).g, fun a z => .inl (Own.cm (o2 a z))⟩ w1 r2
/-- x += e, ints -/
theorem S_augI {x : Str} {px : Pos} {op : Operator} {G : Int → Int → Int} (ho : PIp X op (fun x y H Q => ∃ i j, x = .int i ∧ y = .int j ∧ Q (.int (G i j)) H)) (i : Nat) {fx : γ → Int} {f : γ → m Int} (hk : ss[i]? = some (.v fun g => enc (fx g))) (he : EV X W (Rr X.K W.Av H0 ss) e f)
    (hN : X.N.Nodup) (hi : X.N[i]? = some x) (hx : Loc X.env.scope x) (hf : X.fn x = true) :
    SN X W H0 ss (.AugAssign (.Name x px) op e pos) ((ss.map (SK.cm Prod.fst)).set i (.v fun g' : γ × Int => enc g'.2)) (fun g => f g >>= fun y => pure (G (fx g) y)) := fun g s t s' rn σ H hR hW D nd => by
  obtain ⟨z0, s1, e0, rn⟩ := run_bind_some rn
  obtain ⟨rfl, rfl⟩ := run_pure_some rn
  obtain ⟨v, ev, p⟩ := hR.get (.inl hk)
  refine wS.of (ps_aug hN hi hx (peW e) ho (.inl hf)) ⟨v, ev, he g s z0 _ e0 σ H hR hW _ fun w H1 g1 w1 p1 => ⟨_, _, p.int_inv, p1.int_inv, ?_⟩⟩
  obtain ⟨r, t⟩ := Rr.put (x := G (fx g) z0) i hR hW g1 (.int _)
  exact nd _ H1 t w1 r
end

/-! ### what is walked -/
/-- the iterator J gives xs, while the heap but A's is kept -/
def Wk {β : Type} [Py β] (K : PySem.W.Frag) (A : Addr → Prop) (J : It) (H1 : Hp) (xs : List β) : Prop :=
  xs.length ≤ sizeLine ∧ ∀ H', gr A H1 H' → (∀ i, xs.length ≤ i → J.stop i H') ∧ ∀ i y, xs[i]? = some y → J.go i H' ∧ ∀ x H'', J.yld i H' x H'' → Same H' H'' ∧ Rp K (fun _ => True) H'' x (enc y)
section
variable {S : Type} {m : Type → Type} [Monad m] [MR m S] {γ α β : Type} [Py α] [Py β]
def IV (X : Cx) (W : Wd S) (H0 : Hp) (ss : List (SK γ)) (tg iter : Expr) (f : γ → m (List β)) : Prop :=
  ∀ g s xs s', MR.run (f g) s = some (xs, s') → ∀ σ H, Rr X.K W.Av H0 ss g σ H → W.WI s H → ∀ Q : It → Hp → Prop,
    (∀ J H1, gr W.Av H H1 → W.WI s' H1 → Wk X.K (fun a => W.Av a ∨ Own ss σ a) J H1 xs → Q J H1) → wI X tg iter σ H Q
variable {X : Cx} {W : Wd S} {H0 : Hp} {ss : List (SK γ)} {e a b c tg : Expr} {pos : Pos}
theorem RpAll.getI [Imm β] {K : PySem.W.Frag} {A : Addr → Prop} {H : Hp} {vs : List V} {xs : List β} (h : RpAll K A H vs (xs.map enc)) {i : Nat} {y : β} (e : xs[i]? = some y) : ∃ v, vs[i]? = some v ∧ Rp K (fun _ => True) H v (enc y) := by
  obtain ⟨v, h1, h2⟩ := h.get (i := i) (d := enc y) (by rw [List.getElem?_map, e]; rfl)
  exact ⟨v, h1, h2.any (Imm.imm y)⟩
/-- a tuple -/
theorem I_tup [Imm β] {f : γ → m (List β)} (h : EV X W (Rr X.K W.Av H0 ss) e f) : IV X W H0 ss tg e f := fun g s xs s' rn σ H hR hW Q q => by
  refine wI.of (pi_tup (peW e)) (h g s xs s' rn σ H hR hW _ fun v H1 g1 w1 p => ?_)
  obtain ⟨a, vs, rfl, hz, hs, hx⟩ := p.tup_inv
  refine ⟨a, rfl, ⟨vs, hs⟩, q _ H1 g1 w1 ⟨by rw [← List.length_map (f := enc) (as := xs), ← hx.length]; exact hz, fun H' g' => ?_⟩⟩
  have hs' := g'.sqt hs
  have hx' : RpAll X.K (fun _ => True) H' vs (xs.map enc) := RpAll.mono (g'.mono fun _ _ => trivial) (hx.any (immDs_map xs))
  have hl := hx.length
  rw [List.length_map] at hl
  refine ⟨fun i hi => ⟨vs, hs', by rw [hl]; exact hi⟩, fun i y hy => ?_⟩
  obtain ⟨v, e1, e2⟩ := hx'.getI hy
  refine ⟨⟨vs, v, hs', e1⟩, fun x H'' hyl => ?_⟩
  obtain ⟨rfl, hyl⟩ := hyl
  have := hyl vs hs'
  rw [e1] at this
  cases this
  exact ⟨Same.refl _, e2⟩
/-- a list that nobody changes -/
theorem wk_list [Imm β] {K : PySem.W.Frag} {A B : Addr → Prop} {a : Addr} {vs : List V} {xs : List β} {H1 : Hp} (hn : ¬ A a) (hs : H1 a = some (.lst vs)) (hz : vs.length ≤ sizeLine) (hx : RpAll K B H1 vs (xs.map enc)) : Wk K A (Itl K a) H1 xs := ⟨by rw [← List.length_map (f := enc) (as := xs), ← hx.length]; exact hz, fun H' g' => by
  have hs' : SqL K H' a vs := .of (g'.kp a _ hs fun z => absurd z hn)
  have hx' : RpAll K (fun _ => True) H' vs (xs.map enc) := RpAll.mono (g'.mono fun _ _ => trivial) (hx.any (immDs_map xs))
  have hl := hx.length
  rw [List.length_map] at hl
  refine ⟨fun i hi => ⟨vs, hs', by rw [hl]; exact hi⟩, fun i y hy => ?_⟩
  obtain ⟨v, e1, e2⟩ := hx'.getI hy
  refine ⟨⟨vs, v, hs', e1⟩, fun x H'' hyl => ?_⟩
  obtain ⟨rfl, hyl⟩ := hyl
  have := hyl vs hs'
  rw [e1] at this
  cases this
  exact ⟨Same.refl _, e2⟩⟩
theorem I_lst [Imm β] {f : γ → m (Ls β)} (h : EVf X W (Rr X.K W.Av H0 ss) e f) : IV X W H0 ss tg e (fun g => f g >>= fun x => pure x.l) := fun g s xs s' rn σ H hR hW Q q => by
  obtain ⟨z0, s1, e0, rn⟩ := run_bind_some rn
  obtain ⟨rfl, rfl⟩ := run_pure_some rn
  refine wI.of (pi_list (peW e)) (h g s z0 s1 e0 σ H hR hW _ fun v H1 g1 w1 p => ?_)
  obtain ⟨a, vs, rfl, hn, hz, hs, hx⟩ := p.lst_inv
  refine ⟨a, rfl, ⟨vs, .of hs⟩, q _ H1 g1 w1 (wk_list (fun z => ?_) hs hz hx)⟩
  rcases z with z | z
  · exact hn (W.old s H a hW z)
  · exact hn (hR.ownS z).1
/-- a name that holds a list -/
theorem I_lstV [Imm β] {x : Str} {p : Pos} (i : Nat) {f : γ → Ls β} (hk : ss[i]? = some (.v fun g => enc (f g)))
    (hN : X.N[i]? = some x) (hv : Vis X.env.scope x) (hd : (x == ("__debug__" : Str)) = false) (hcd : (x == ("__classdict__" : Str)) = false) :
    IV X W H0 ss tg (.Name x p) (fun g => (pure (f g).l : m (List β))) := fun g s xs s' rn σ H hR hW Q q => by
  obtain ⟨rfl, rfl⟩ := run_pure_some rn
  have hi : i < ss.length := (List.getElem?_eq_some_iff.mp hk).1
  obtain ⟨w, hs⟩ : ∃ w, σ[i]? = some w := ⟨_, List.getElem?_eq_getElem (show i < σ.length by rw [← hR.len]; exact hi)⟩
  obtain ⟨v, rfl, p⟩ := hR.slot i _ _ hk hs
  obtain ⟨a, vs, rfl, hn, hz, hl, hx⟩ := p.lst_inv
  exact wI.of (pi_list (pe_var hN hv hd hcd)) ⟨_, hs, a, rfl, ⟨vs, .of hl⟩, q _ H (.refl _ _) hW (wk_list hn hl hz hx)⟩
/-- lo, lo + 1, .. below hi -/
def rngL (lo hi : Int) : List Int := (List.range (hi - lo).toNat).map fun i => lo + (i : Nat)
def rngM (lo hi : Int) : Option (List Int) := if -1000000 ≤ lo ∧ lo ≤ 1000000 ∧ -1000000 ≤ hi ∧ hi ≤ 1000000 then some (rngL lo hi) else none
theorem rngL_get {lo hi : Int} {i : Nat} {y : Int} (h : (rngL lo hi)[i]? = some y) : i < (hi - lo).toNat ∧ y = lo + i := by
  unfold rngL at h
  rw [List.getElem?_map] at h
  cases q : (List.range (hi - lo).toNat)[i]? with
  | none => rw [q] at h; cases h
  | some j =>
    rw [q] at h
    cases h
    obtain ⟨h1, h2⟩ := List.getElem?_eq_some_iff.mp q
    rw [List.length_range] at h1
    rw [List.getElem_range] at h2
    subst h2
    exact ⟨h1, rfl⟩
theorem rngL_len {lo hi : Int} : (rngL lo hi).length = (hi - lo).toNat := by simp [rngL]
theorem wk_rng {K : PySem.W.Frag} {A : Addr → Prop} {H1 : Hp} {lo hi : Int} (hb : hi - lo ≤ 2000000) : Wk K A (Itr lo (hi - lo).toNat) H1 (rngL lo hi) := ⟨by
    rw [rngL_len]
    exact Nat.le_trans (show (hi - lo).toNat ≤ 2000000 by omega) (by decide), fun H' g' => by
  refine ⟨fun i hi => by rw [rngL_len] at hi; exact hi, fun i y hy => ?_⟩
  obtain ⟨h1, rfl⟩ := rngL_get hy
  refine ⟨h1, fun x H'' hyl => ?_⟩
  obtain ⟨rfl, rfl⟩ := hyl
  exact ⟨Same.refl _, .int _⟩⟩
theorem I_rng1 {p : Pos} {f : γ → m Int} (hm : X.mg "range" = none) (hg : Gl X "range") (n : NS a) (h : EV X W (Rr X.K W.Av H0 ss) a f) : IV X W H0 ss tg (.Call (.Name "range" p) [a] [] pos) (fun g => f g >>= fun n => MR.lift (rngM 0 n)) := fun g s xs s' rn σ H hR hW Q q => by
  obtain ⟨z0, s1, e0, rn⟩ := run_bind_some rn
  obtain ⟨h3, rfl⟩ := run_lift_some rn
  unfold rngM at h3
  split at h3
  · rename_i c
    cases h3
    refine wI.of (pi_range1 hg hm (pa_cons (peW a) pa_nil (n _ _)) (by rw [n]; unfold starEach; rfl)) (h g s z0 _ e0 σ H hR hW _ fun v H1 g1 w1 p => ⟨z0, by rw [p.int_inv], by omega, by omega, q _ H1 g1 w1 ?_⟩)
    have := wk_rng (K := X.K) (A := fun a => W.Av a ∨ Own ss σ a) (H1 := H1) (lo := 0) (hi := z0) (by omega)
    rw [Int.sub_zero] at this
    exact this
  · cases h3
theorem I_rng2 {p : Pos} {f k : γ → m Int} (hm : X.mg "range" = none) (hg : Gl X "range") (n : NS a) (n' : NS b) (h : EV X W (Rr X.K W.Av H0 ss) a f) (h' : EV X W (Rr X.K W.Av H0 ss) b k) : IV X W H0 ss tg (.Call (.Name "range" p) [a, b] [] pos) (fun g => f g >>= fun lo => k g >>= fun hi => MR.lift (rngM lo hi)) := fun g s xs s' rn σ H hR hW Q q => by
  obtain ⟨z0, s1, e0, rn⟩ := run_bind_some rn
  obtain ⟨z1, s2, e1, rn⟩ := run_bind_some rn
  obtain ⟨h3, rfl⟩ := run_lift_some rn
  unfold rngM at h3
  split at h3
  · rename_i c
    cases h3
    exact wI.of (pi_range2 hg hm (pa_cons (peW a) (pa_cons (peW b) pa_nil (n' _ _)) (n _ _)) (by rw [n, n']; unfold starEach; rfl) (by rw [n']; unfold starEach; rfl)) (EV.two Rr.stb h h' e0 e1 hR hW fun v u H1 g1 w1 p p' => ⟨z0, z1, by rw [p.int_inv, p'.int_inv], ⟨by omega, by omega, by omega, by omega⟩, q _ H1 g1 w1 (wk_rng (by omega))⟩)
  · cases h3
/-- zip of two tuples -/
theorem I_zipT [Imm α] [Imm β] {es : List Expr} {k : Nat} {tp p : Pos} {f : γ → m (List α)} {f' : γ → m (List β)} (hm : X.mg "zip" = none) (hg : Gl X "zip") (n : NS a) (n' : NS b) (h : EV X W (Rr X.K W.Av H0 ss) a f) (h' : EV X W (Rr X.K W.Av H0 ss) b f') :
    IV X W H0 ss (.Tuple es k tp) (.Call (.Name "zip" p) [a, b] [] pos) (fun g => f g >>= fun x => f' g >>= fun y => pure (x.zip y)) := fun g s xs s' rn σ H hR hW Q q => by
  obtain ⟨z0, s1, e0, rn⟩ := run_bind_some rn
  obtain ⟨z1, s2, e1, rn⟩ := run_bind_some rn
  obtain ⟨rfl, rfl⟩ := run_pure_some rn
  refine wI.of (RZ.pi_zipA hg hm (pa_cons (peW a) (pa_cons (peW b) pa_nil (n' _ _)) (n _ _)) (n _ _) (by rw [backTo_any, n']; unfold starEach; rfl)) (EV.two Rr.stb h h' e0 e1 hR hW fun v u H1 g1 w1 p p' => ?_)
  obtain ⟨a, vs, rfl, hz, hs, hx⟩ := p.tup_inv
  obtain ⟨b, us, rfl, hz', hs', hx'⟩ := p'.tup_inv
  have hlen : (z0.zip z1).length ≤ sizeLine := by
    have hl := hx.length
    rw [List.length_map] at hl
    rw [List.length_zip]; omega
  refine ⟨a, b, vs, us, rfl, .inr ⟨hs, hs', q _ H1 g1 w1 ⟨hlen, fun H' g' => ?_⟩⟩⟩
  have ha := g'.sqt hs
  have hb := g'.sqt hs'
  have hX : RpAll X.K (fun _ => True) H' vs (z0.map enc) := RpAll.mono (g'.mono fun _ _ => trivial) (hx.any (immDs_map z0))
  have hY : RpAll X.K (fun _ => True) H' us (z1.map enc) := RpAll.mono (g'.mono fun _ _ => trivial) (hx'.any (immDs_map z1))
  have hl := hx.length
  have hl' := hx'.length
  rw [List.length_map] at hl hl'
  refine ⟨fun i hi => ⟨vs, us, ha, hb, ?_⟩, fun i y hy => ?_⟩
  · rw [List.length_zip] at hi; omega
  · rw [List.getElem?_zip_eq_some] at hy
    obtain ⟨v, e1, e2⟩ := hX.getI hy.1
    obtain ⟨u, e3, e4⟩ := hY.getI hy.2
    refine ⟨⟨vs, us, v, u, ha, hb, e1, e3⟩, fun x H'' hyl => ?_⟩
    obtain ⟨T, x1, x2, rfl, nT, rfl, f1, f2⟩ := hyl
    have q1 := f1 vs ha
    have q2 := f2 us hb
    rw [e1] at q1
    rw [e3] at q2
    cases q1
    cases q2
    have sm : Same H' (upd H' T (.tup [v, u])) := fun b o e => by rw [upd_ne (ne_of_none e nT)]; exact e
    exact ⟨sm, .tup (by show 2 ≤ sizeLine; decide) (.of upd_same) (.cons (e2.mono (.of_same sm)) (.cons (e4.mono (.of_same sm)) .nil))⟩
end
end TC

namespace TC
open PySem PySem.Spec PyProof.Rows L2
open Py (enc)

/-! ### for, while -/
section
variable {S : Type} {m : Type → Type} [Monad m] [MR m S] {δ ρ β : Type}
def foldM' (f : δ → β → m δ) : δ → List β → m δ
  | d, [] => pure d
  | d, x :: xs => f d x >>= fun d' => foldM' f d' xs
/-- a loop that may return -/
def foldF (f : δ → β → m (Fl δ ρ)) : δ → List β → m (Fl δ ρ)
  | d, [] => pure (.nx d)
  | d, x :: xs => f d x >>= fun r => match r with
    | .nx d' => foldF f d' xs
    | .rt x => pure (.rt x)
/-- what follows such a loop -/
def flE (k : δ → m ρ) : Fl δ ρ → m ρ
  | .nx d => k d
  | .rt x => pure x
def whileM (c : δ → m Bool) (b : δ → m δ) : Nat → δ → m δ
  | 0, _ => MR.lift none
  | n + 1, d => c d >>= fun t => if t = true then b d >>= fun d' => whileM c b n d' else pure d
def whileF (c : δ → m Bool) (b : δ → m (Fl δ ρ)) : Nat → δ → m (Fl δ ρ)
  | 0, _ => MR.lift none
  | n + 1, d => c d >>= fun t => if t = true then b d >>= fun r => match r with
    | .nx d' => whileF c b n d'
    | .rt x => pure (.rt x)
    else pure (.nx d)
end
section
variable {S : Type} {m : Type → Type} [Monad m] [MR m S] {γ δ τ ρ α β : Type} [Py α] [Py β] [Py ρ]
variable {X : Cx} {W : Wd S} {H0 : Hp} {ss : List (SK γ)} {e a b c tg iter : Expr} {st : Stmt} {rest body : List Stmt} {pos : Pos}
abbrev loopS (ups : List (Nat × (β → PyData))) (ssL : List (SK (γ × δ))) : List (SK ((γ × δ) × β)) := setK (ups.map fun u => (u.1, fun g' : (γ × δ) × β => u.2 g'.2)) (ssL.map (SK.cm Prod.fst))
theorem upsmap {ε : Type} {ups : List (Nat × (β → PyData))} {h : ε → β} : (ups.map fun u => (u.1, fun g' : ε => u.2 (h g'))).map (·.1) = ups.map (·.1) := by rw [List.map_map]; rfl
theorem S_forF (init : γ → δ) {ssL : List (SK (γ × δ))} {ups : List (Nat × (β → PyData))} {fi : γ → m (List β)} {fb : (γ × δ) × β → m (Fl δ ρ)} {fr : γ × δ → m ρ} (le : LeS (fun g => (g, init g)) ssL ss)
    (hi : IV X W H0 ss tg iter fi) (ht : TJ X tg ups) (hb : BJ X W H0 (loopS ups ssL) body fb (fun g' => NdF X W H0 ssL ρ g'.1.1))
    (hr : BJ X W H0 ssL rest fr (fun _ => NdR X W H0 ρ))
    (hc : X.calm = true) (hp : PassesOwn (model X.prog X.w) X.A X.env X.xe) (hs : ∀ x, foldedSetIterable iter X.env x = pure x) :
    BJ X W H0 ss (.For tg iter body [] pos :: rest) (fun g => fi g >>= fun xs => foldF (fun d y => fb ((g, d), y)) (init g) xs >>= flE (fun d => fr (g, d))) (fun _ => NdR X W H0 ρ) := fun g s t s' rn σ H hR hW D nd => by
  obtain ⟨xs, s1, e0, rn⟩ := run_bind_some rn
  refine wSs.of (pss_cons (ps_for hp hc (piW tg iter) (pgW tg) (pssW body) hs) (pssW rest)) (hi g s xs s1 e0 σ H hR hW _ fun J H1 g1 w1 wk => ?_)
  obtain ⟨hlen, wk⟩ := wk
  refine ⟨fun i mm σ' H' => mm = xs.length - i ∧ i ≤ xs.length ∧ ∃ d s2, MR.run (foldF (fun d y => fb ((g, d), y)) d (xs.drop i) >>= flE (fun d => fr (g, d))) s2 = some (t, s') ∧ W.WI s2 H' ∧ Rr X.K W.Av H0 ssL (g, d) σ' H' ∧ Tr W.Av (Own ss σ) H1 (Own ssL σ') H', ⟨_, rfl, Nat.zero_le _, init g, s1, rn, w1, (Rr.le (π := fun g => (g, init g)) le (hR.st g1)), ⟨.refl _ _, fun a z => .inl (le.own z)⟩⟩, ?_⟩
  rintro i mm σ' H' ⟨rfl, hile, d, s2, h2, w2, r2, t2⟩
  by_cases hlt : i < xs.length
  · obtain ⟨hgo, hyl⟩ := (wk H' t2.g).2 i xs[i] (List.getElem?_eq_getElem hlt)
    refine .inr ⟨hgo, _, fun σ3 H3 h => ⟨xs.length - (i + 1), by omega, ⟨rfl, hlt, h⟩⟩, fun x H'' y => ?_⟩
    obtain ⟨sm, p⟩ := hyl x H'' y
    have w3 : W.WI s2 H'' := W.keep _ _ _ w2 fun a o _ z => sm a o z
    refine ht x xs[i] σ' H'' p _ fun vs hv => ?_
    have r3 := ((r2.st (.of_same sm)).cm (Prod.fst : (γ × δ) × β → γ × δ) (g' := ((g, d), xs[i])) rfl)
    have hv' : RpAll X.K (fun _ => True) H'' vs ((ups.map fun u => (u.1, fun g' : (γ × δ) × β => u.2 g'.2)).map fun u => u.2 ((g, d), xs[i])) := by rw [List.map_map]; exact hv
    obtain ⟨r4, o4⟩ := Rr.setK hv' r3
    rw [upsmap] at r4 o4
    rw [List.drop_eq_getElem_cons hlt] at h2
    unfold foldF at h2
    obtain ⟨r5, s5, h5, h6⟩ := run_bind_some h2
    obtain ⟨r6, s6, h7, h8⟩ := run_bind_some h5
    refine hb ((g, d), xs[i]) s2 r6 s6 h7 _ H'' r4 w3 _ ?_
    cases r6 with
    | nx d' =>
      refine fun σ3 H3 t3 w4 r7 => ⟨d', s6, ?_, w4, r7, t2.trans ((Tr.of_gr (gr.of_same sm)).trans (⟨t3.g.mono fun a z => z.imp id fun z => Own.cm (o4 a z), fun a z => (t3.own a z).imp (fun z => Own.cm (o4 a z)) id⟩))⟩
      rw [MR.run_bind, h8]
      exact h6
    | rt x =>
      obtain ⟨rfl, rfl⟩ := run_pure_some h8
      obtain ⟨rfl, rfl⟩ := run_pure_some h6
      exact nd
  · have e : i = xs.length := by omega
    subst e
    rw [List.drop_length] at h2
    unfold foldF at h2
    obtain ⟨r5, s5, h5, h6⟩ := run_bind_some h2
    obtain ⟨rfl, rfl⟩ := run_pure_some h5
    exact .inl ⟨(wk H' t2.g).1 _ (Nat.le_refl _), hr (g, d) s2 t s' h6 σ' H' r2 w2 D nd⟩
theorem S_for (init : γ → δ) {ssL : List (SK (γ × δ))} {ups : List (Nat × (β → PyData))} {fi : γ → m (List β)} {fb : (γ × δ) × β → m δ} (le : LeS (fun g => (g, init g)) ssL ss)
    (hi : IV X W H0 ss tg iter fi) (ht : TJ X tg ups) (hb : BJ X W H0 (loopS ups ssL) body fb (fun g' => NdN X W H0 ssL g'.1.1))
    (hc : X.calm = true) (hp : PassesOwn (model X.prog X.w) X.A X.env X.xe) (hs : ∀ x, foldedSetIterable iter X.env x = pure x) :
    SN X W H0 ss (.For tg iter body [] pos) ssL (fun g => fi g >>= fun xs => foldM' (fun d y => fb ((g, d), y)) (init g) xs) := fun g s t s' rn σ H hR hW D nd => by
  obtain ⟨xs, s1, e0, rn⟩ := run_bind_some rn
  refine wS.of (ps_for hp hc (piW tg iter) (pgW tg) (pssW body) hs) (hi g s xs s1 e0 σ H hR hW _ fun J H1 g1 w1 wk => ?_)
  obtain ⟨hlen, wk⟩ := wk
  refine ⟨fun i mm σ' H' => mm = xs.length - i ∧ i ≤ xs.length ∧ ∃ d s2, MR.run (foldM' (fun d y => fb ((g, d), y)) d (xs.drop i)) s2 = some (t, s') ∧ W.WI s2 H' ∧ Rr X.K W.Av H0 ssL (g, d) σ' H' ∧ Tr W.Av (Own ss σ) H1 (Own ssL σ') H', ⟨_, rfl, Nat.zero_le _, init g, s1, rn, w1, (Rr.le (π := fun g => (g, init g)) le (hR.st g1)), ⟨.refl _ _, fun a z => .inl (le.own z)⟩⟩, ?_⟩
  rintro i mm σ' H' ⟨rfl, hile, d, s2, h2, w2, r2, t2⟩
  by_cases hlt : i < xs.length
  · obtain ⟨hgo, hyl⟩ := (wk H' t2.g).2 i xs[i] (List.getElem?_eq_getElem hlt)
    refine .inr ⟨hgo, _, fun σ3 H3 h => ⟨xs.length - (i + 1), by omega, ⟨rfl, hlt, h⟩⟩, fun x H'' y => ?_⟩
    obtain ⟨sm, p⟩ := hyl x H'' y
    have w3 : W.WI s2 H'' := W.keep _ _ _ w2 fun a o _ z => sm a o z
    refine ht x xs[i] σ' H'' p _ fun vs hv => ?_
    have r3 := ((r2.st (.of_same sm)).cm (Prod.fst : (γ × δ) × β → γ × δ) (g' := ((g, d), xs[i])) rfl)
    have hv' : RpAll X.K (fun _ => True) H'' vs ((ups.map fun u => (u.1, fun g' : (γ × δ) × β => u.2 g'.2)).map fun u => u.2 ((g, d), xs[i])) := by rw [List.map_map]; exact hv
    obtain ⟨r4, o4⟩ := Rr.setK hv' r3
    rw [upsmap] at r4 o4
    rw [List.drop_eq_getElem_cons hlt] at h2
    unfold foldM' at h2
    obtain ⟨r5, s5, h5, h6⟩ := run_bind_some h2
    refine hb ((g, d), xs[i]) s2 r5 s5 h5 _ H'' r4 w3 _ ?_
    exact fun σ3 H3 t3 w4 r7 => ⟨r5, s5, h6, w4, r7, t2.trans ((Tr.of_gr (gr.of_same sm)).trans (⟨t3.g.mono fun a z => z.imp id fun z => Own.cm (o4 a z), fun a z => (t3.own a z).imp (fun z => Own.cm (o4 a z)) id⟩))⟩
  · have e : i = xs.length := by omega
    subst e
    rw [List.drop_length] at h2
    unfold foldM' at h2
    obtain ⟨rfl, rfl⟩ := run_pure_some h2
    exact .inl ⟨(wk H' t2.g).1 _ (Nat.le_refl _), nd σ' H' ((Tr.of_gr g1).trans t2) w2 r2⟩
theorem S_while (init : γ → δ) (n : Nat) {ssL : List (SK (γ × δ))} {fc : γ × δ → m Bool} {fb : γ × δ → m δ} (le : LeS (fun g => (g, init g)) ssL ss)
    (ht : TV X W (Rr X.K W.Av H0 ssL) c fc) (hb : BJ X W H0 ssL body fb (fun g' => NdN X W H0 ssL g'.1))
    (hp : PassesOwn (model X.prog X.w) X.A X.env X.xe) :
    SN X W H0 ss (.While c body [] pos) ssL (fun g => whileM (fun d => fc (g, d)) (fun d => fb (g, d)) n (init g)) := fun g s t s' rn σ H hR hW D nd => by
  refine wS.of (ps_while hp (ptW c) (pssW body)) ?_
  refine ⟨fun k σ' H' => ∃ d s2, MR.run (whileM (fun d => fc (g, d)) (fun d => fb (g, d)) k d) s2 = some (t, s') ∧ W.WI s2 H' ∧ Rr X.K W.Av H0 ssL (g, d) σ' H' ∧ Tr W.Av (Own ss σ) H (Own ssL σ') H', ⟨n, init g, s, rn, hW, (Rr.le (π := fun g => (g, init g)) le hR), ⟨.refl _ _, fun a z => .inl (le.own z)⟩⟩, ?_⟩
  rintro k σ' H' ⟨d, s2, h2, w2, r2, t2⟩
  cases k with
  | zero =>
    unfold whileM at h2
    obtain ⟨h3, _⟩ := run_lift_some h2
    cases h3
  | succ k =>
    unfold whileM at h2
    obtain ⟨b, s3, h3, h4⟩ := run_bind_some h2
    refine ht (g, d) s2 b s3 h3 σ' H' r2 w2 _ fun H1 g1 w3 => ?_
    cases b with
    | true =>
      simp only [if_true] at h4 ⊢
      obtain ⟨d', s5, h5, h6⟩ := run_bind_some h4
      refine ⟨_, fun σ3 H3 h => ⟨k, Nat.lt_succ_self k, h⟩, ?_⟩
      refine hb (g, d) s3 d' s5 h5 σ' H1 (r2.st g1) w3 _ ?_
      exact fun σ3 H3 t3 w4 r7 => ⟨d', s5, h6, w4, r7, t2.trans ((Tr.of_gr g1).trans t3)⟩
    | false =>
      simp only [Bool.false_eq_true, if_false] at h4 ⊢
      obtain ⟨rfl, rfl⟩ := run_pure_some h4
      exact nd σ' H1 (t2.trans (.of_gr g1)) w3 (r2.st g1)
theorem S_whileF (init : γ → δ) (n : Nat) {ssL : List (SK (γ × δ))} {fc : γ × δ → m Bool} {fb : γ × δ → m (Fl δ ρ)} {fr : γ × δ → m ρ} (le : LeS (fun g => (g, init g)) ssL ss)
    (ht : TV X W (Rr X.K W.Av H0 ssL) c fc) (hb : BJ X W H0 ssL body fb (fun g' => NdF X W H0 ssL ρ g'.1)) (hr : BJ X W H0 ssL rest fr (fun _ => NdR X W H0 ρ))
    (hp : PassesOwn (model X.prog X.w) X.A X.env X.xe) :
    BJ X W H0 ss (.While c body [] pos :: rest) (fun g => whileF (fun d => fc (g, d)) (fun d => fb (g, d)) n (init g) >>= flE (fun d => fr (g, d))) (fun _ => NdR X W H0 ρ) := fun g s t s' rn σ H hR hW D nd => by
  refine wSs.of (pss_cons (ps_while hp (ptW c) (pssW body)) (pssW rest)) ?_
  refine ⟨fun k σ' H' => ∃ d s2, MR.run (whileF (fun d => fc (g, d)) (fun d => fb (g, d)) k d >>= flE (fun d => fr (g, d))) s2 = some (t, s') ∧ W.WI s2 H' ∧ Rr X.K W.Av H0 ssL (g, d) σ' H' ∧ Tr W.Av (Own ss σ) H (Own ssL σ') H', ⟨n, init g, s, rn, hW, (Rr.le (π := fun g => (g, init g)) le hR), ⟨.refl _ _, fun a z => .inl (le.own z)⟩⟩, ?_⟩
  rintro k σ' H' ⟨d, s2, h2, w2, r2, t2⟩
  obtain ⟨r0, s0, h1, h0⟩ := run_bind_some h2
  cases k with
  | zero =>
    unfold whileF at h1
    obtain ⟨h3, _⟩ := run_lift_some h1
    cases h3
  | succ k =>
    unfold whileF at h1
    obtain ⟨b, s3, h3, h4⟩ := run_bind_some h1
    refine ht (g, d) s2 b s3 h3 σ' H' r2 w2 _ fun H1 g1 w3 => ?_
    cases b with
    | true =>
      simp only [if_true] at h4 ⊢
      obtain ⟨r6, s5, h5, h6⟩ := run_bind_some h4
      refine ⟨_, fun σ3 H3 h => ⟨k, Nat.lt_succ_self k, h⟩, ?_⟩
      refine hb (g, d) s3 r6 s5 h5 σ' H1 (r2.st g1) w3 _ ?_
      cases r6 with
      | nx d' =>
        refine fun σ3 H3 t3 w4 r7 => ⟨d', s5, ?_, w4, r7, t2.trans ((Tr.of_gr g1).trans t3)⟩
        rw [MR.run_bind, h6]
        exact h0
      | rt x =>
        obtain ⟨rfl, rfl⟩ := run_pure_some h6
        obtain ⟨rfl, rfl⟩ := run_pure_some h0
        exact nd
    | false =>
      simp only [Bool.false_eq_true, if_false] at h4 ⊢
      obtain ⟨rfl, rfl⟩ := run_pure_some h4
      exact hr (g, d) s3 t s' h0 σ' H1 (r2.st g1) w3 D nd
end

/-! ### comprehensions -/
def wipeK {γ : Type} (ss : List (SK γ)) : List Nat → List (SK γ)
  | [] => ss
  | v :: vs => (wipeK ss vs).set v .u
section
variable {K : PySem.W.Frag} {Av : Addr → Prop} {H0 H : Hp} {γ : Type} {ss : List (SK γ)} {g : γ} {σ : Sg}
theorem Own.setu {i : Nat} {o : Option V} {a : Addr} (h : Own (ss.set i .u) (σ.set i o) a) : Own ss σ a := by
  obtain ⟨j, e, h1, h2⟩ := h
  by_cases hj : i = j
  · subst hj
    rw [List.getElem?_set_self'] at h1
    cases q1 : ss[i]? with
    | none => rw [q1] at h1; cases h1
    | some _ => rw [q1] at h1; cases h1
  · rw [List.getElem?_set_ne hj] at h1 h2
    exact ⟨j, e, h1, h2⟩
theorem Rr.setu (r : Rr K Av H0 ss g σ H) (i : Nat) (o : Option V) : Rr K Av H0 (ss.set i .u) g (σ.set i o) H := by
  refine ⟨r.base, by rw [List.length_set, List.length_set]; exact r.len, fun j k o' h1 h2 => ?_, fun j l e f a h1 h2 h3 h4 => ?_⟩
  · by_cases hj : i = j
    · subst hj
      rw [List.getElem?_set_self'] at h1
      cases q1 : ss[i]? with
      | none => rw [q1] at h1; cases h1
      | some _ => rw [q1] at h1; cases h1; trivial
    · rw [List.getElem?_set_ne hj] at h1 h2
      have h := r.slot j k o' h1 h2
      cases k with
      | u => trivial
      | k w => exact h
      | v e =>
        obtain ⟨w, e, p⟩ := h
        exact ⟨w, e, p.weak fun a z => z.imp id Own.setu⟩
      | o e =>
        obtain ⟨a, e, p, q⟩ := h
        exact ⟨a, e, p.chg fun b z _ => z.imp id Own.setu, q⟩
  · have hj : i ≠ j := fun c => by
      subst c
      rw [List.getElem?_set_self'] at h1
      cases q1 : ss[i]? with
      | none => rw [q1] at h1; cases h1
      | some _ => rw [q1] at h1; cases h1
    have hl : i ≠ l := fun c => by
      subst c
      rw [List.getElem?_set_self'] at h2
      cases q1 : ss[i]? with
      | none => rw [q1] at h2; cases h2
      | some _ => rw [q1] at h2; cases h2
    rw [List.getElem?_set_ne hj] at h1 h3
    rw [List.getElem?_set_ne hl] at h2 h4
    exact r.one j l e f a h1 h2 h3 h4
theorem Rr.wipe (r : Rr K Av H0 ss g σ H) : ∀ vs : List Nat, Rr K Av H0 (wipeK ss vs) g (wipe σ vs) H
  | [] => r
  | v :: vs => (Rr.wipe r vs).setu v none
theorem wipe_get (σ : Sg) : ∀ (vs : List Nat) (j : Nat), (wipe σ vs)[j]? = if j ∈ vs then (σ[j]?).map (fun _ => none) else σ[j]?
  | [], j => by simp [wipe]
  | v :: vs, j => by
    unfold wipe
    rw [List.getElem?_set]
    have ih := wipe_get σ vs
    by_cases h : v = j
    · subst h
      rw [if_pos rfl, wipe_length, if_pos List.mem_cons_self]
      by_cases hl : v < σ.length
      · rw [if_pos hl, List.getElem?_eq_getElem hl]; rfl
      · rw [if_neg hl, List.getElem?_eq_none (by omega)]; rfl
    · rw [if_neg h, ih j]
      have : (j ∈ v :: vs) ↔ j ∈ vs := by
        rw [List.mem_cons]
        exact ⟨fun z => z.elim (fun e => absurd e.symm h) id, .inr⟩
      simp only [this]
theorem setAll_get : ∀ {l : List (Nat × V)} {σ : Sg} {j : Nat}, j ∉ l.map (·.1) → (setAll l σ)[j]? = σ[j]?
  | [], _, _, _ => rfl
  | (i, v) :: r, σ, j, h => by
    simp only [List.map_cons, List.mem_cons, not_or] at h
    show (setAll r (σ.set i (some v)))[j]? = _
    rw [setAll_get h.2, List.getElem?_set_ne (Ne.symm h.1)]
theorem setAll_length : ∀ {l : List (Nat × V)} {σ : Sg}, (setAll l σ).length = σ.length
  | [], _ => rfl
  | (i, v) :: r, σ => by
    show (setAll r (σ.set i (some v))).length = _
    rw [setAll_length, List.length_set]
theorem wipe_setAll {l : List (Nat × V)} {vs : List Nat} (h : ∀ i ∈ l.map (·.1), i ∈ vs) : L2.wipe (setAll l (L2.wipe σ vs)) vs = L2.wipe σ vs := by
  apply List.ext_getElem?
  intro j
  rw [wipe_get, wipe_get]
  by_cases hj : j ∈ vs
  · rw [if_pos hj, if_pos hj]
    have hl : (setAll l (L2.wipe σ vs)).length = σ.length := by rw [setAll_length, wipe_length]
    by_cases q : j < σ.length
    · rw [List.getElem?_eq_getElem (by rw [hl]; exact q), List.getElem?_eq_getElem q]; rfl
    · rw [List.getElem?_eq_none (by rw [hl]; omega), List.getElem?_eq_none (by omega)]
  · rw [if_neg hj, if_neg hj, setAll_get (fun z => hj (h j z)), wipe_get, if_neg hj]
end
section
variable {S : Type} {m : Type → Type} [Monad m] [MR m S] {γ δ τ ρ α β : Type}
def mapL (f : β → m α) : List β → m (List α)
  | [] => pure []
  | x :: xs => f x >>= fun y => mapL f xs >>= fun ys => pure (y :: ys)
/-- .. of those that pass -/
def selL (t : β → m Bool) (f : β → m α) : List β → m (List α)
  | [] => pure []
  | x :: xs => t x >>= fun b => if b = true then f x >>= fun y => selL t f xs >>= fun ys => pure (y :: ys) else selL t f xs
variable [Py α] [Py β] {X : Cx} {W : Wd S} {H0 : Hp} {ss : List (SK γ)} {e a b c tg iter elt : Expr} {pos : Pos}
/-- a comprehension's block -/
abbrev Bk (X : Cx) (scope : Scope) (s : Shared) (H : Hp) (C : Addr) (cl : List (Str × Addr)) (fp : List Addr) : Cx := X.blk s H scope (compEnvC scope cl C X.env) fp
abbrev bkS (ups : List (Nat × (β → PyData))) (own : List (Str × Nat)) (ss : List (SK γ)) : List (SK (γ × β)) := setK (ups.map fun u => (u.1, fun g' : γ × β => u.2 g'.2)) ((wipeK ss (own.map (·.2))).map (SK.cm Prod.fst))
def gA (X : Cx) (scope : Scope) (tg : Expr) : TG := fun v σ H Q => ∀ s H' C cl fp, wG (Bk X scope s H' C cl fp) tg v σ H Q
def eA (X : Cx) (scope : Scope) (e : Expr) : TE := fun σ H Q => ∀ s H' C cl fp, wE (Bk X scope s H' C cl fp) e σ H Q
def tA (X : Cx) (scope : Scope) (e : Expr) : TT := fun σ H Q => ∀ s H' C cl fp, wT (Bk X scope s H' C cl fp) e σ H Q
theorem pgA {scope : Scope} (s : Shared) (H : Hp) (C : Addr) (cl : List (Str × Addr)) (fp : List Addr) : PG (Bk X scope s H C cl fp) tg (gA X scope tg) := ⟨fun pins s' _ _ _ u _ I r h => h s H C cl fp pins s' u I r⟩
theorem peA {scope : Scope} (s : Shared) (H : Hp) (C : Addr) (cl : List (Str × Addr)) (fp : List Addr) : PE (Bk X scope s H C cl fp) e (eA X scope e) := ⟨fun pins s' _ _ _ I h => h s H C cl fp pins s' I⟩
theorem ptA {scope : Scope} (s : Shared) (H : Hp) (C : Addr) (cl : List (Str × Addr)) (fp : List Addr) : PT (Bk X scope s H C cl fp) e (tA X scope e) := ⟨fun pins s' _ _ _ I h => h s H C cl fp pins s' I⟩
/-- the turns of a comprehension with a test -/
theorem lc_read {scope : Scope} {own : List (Str × Nat)} {ups : List (Nat × (β → PyData))} {fi : γ → m (List β)} {fc : γ × β → m Bool} {fe : γ × β → m α} {tt : TT} [Imm α]
    (hi : IV X W H0 ss tg iter fi) (ht : ∀ s H C cl fp, TJ (Bk X scope s H C cl fp) tg ups) (hv : ∀ i ∈ ups.map (·.1), i ∈ own.map (·.2))
    (hc : ∀ g s x s', MR.run (fc g) s = some (x, s') → ∀ σ H, Rr X.K W.Av H0 (bkS ups own ss) g σ H → W.WI s H → ∀ Q : Bool → Hp → Prop, (∀ H', gr W.Av H H' → W.WI s' H' → Q x H') → tt σ H Q)
    (he : ∀ s H C cl fp, EV (Bk X scope s H C cl fp) W (Rr X.K W.Av H0 (bkS ups own ss)) elt fe)
    {g : γ} {s s' : S} {ys : List α} (rn : MR.run (fi g >>= fun xs => selL (fun y => fc (g, y)) (fun y => fe (g, y)) xs) s = some (ys, s')) {σ : Sg} {H : Hp} (hR : Rr X.K W.Av H0 ss g σ H) (hW : W.WI s H) {Q : VK}
    (q : ∀ v H', gr W.Av H H' → W.WI s' H' → Rp X.K (fun a => H a ≠ none) H' v (enc (Ls.mk ys)) → Q v H') : tLc (wI X tg iter) (gA X scope tg) tt (eA X scope elt) (own.map (·.2)) σ H Q := by
  obtain ⟨xs, s1, e0, rn⟩ := run_bind_some rn
  refine hi g s xs s1 e0 σ H hR hW _ fun J H1 g1 w1 wk D hD => ?_
  obtain ⟨hlen, wk⟩ := wk
  have nA : ¬ W.Av D := fun z => W.old s1 H1 D w1 z hD
  have nD : H D = none := by
    cases q : H D with
    | none => rfl
    | some o => exact absurd hD (g1.ex D (by rw [q]; simp))
  have n0 : H0 D = none := by
    cases q : H0 D with
    | none => rfl
    | some o => exact absurd nD (hR.base.ex D (by rw [q]; simp))
  have toA : ∀ {ε : Type} {ss : List (SK ε)} {g : ε} {σ H}, Rr X.K (fun a => W.Av a ∨ a = D) H0 ss g σ H → Rr X.K W.Av H0 ss g σ H := fun r => r.av (fun a z => .inl (.inl z)) (fun a z => by
    rcases z with z | rfl
    · exact .inl z
    · exact .inr n0)
  refine ⟨fun i mm H' => mm = xs.length - i ∧ i ≤ xs.length ∧ ∃ ys1 ys2 s2 acc, MR.run (selL (fun y => fc (g, y)) (fun y => fe (g, y)) (xs.drop i)) s2 = some (ys2, s') ∧ ys = ys1 ++ ys2 ∧ ys1.length ≤ i ∧ W.WI s2 H' ∧
      Rr X.K (fun a => W.Av a ∨ a = D) H0 (wipeK ss (own.map (·.2))) g (L2.wipe σ (own.map (·.2))) H' ∧ gr W.Av H1 H' ∧ H' D = some (.lst acc) ∧ RpAll X.K (fun _ => True) H' acc (ys1.map enc), ⟨_, rfl, Nat.zero_le _, [], ys, s1, [], rn, rfl, Nat.le_refl _, W.new w1 hD, ?_, .new hD, upd_same, .nil⟩, ?_⟩
  · refine Rr.wipe ?_ _
    exact ((hR.st g1).av (fun a z => z.imp id fun e => by rw [e]; exact hD) (fun a z => .inl (.inl z))).st (.new hD)
  rintro i mm H' ⟨rfl, hile, ys1, ys2, s2, acc, h2, hys, hy1, w2, r2, g2, hacc, hrp⟩
  have hal : acc.length = ys1.length := by have := hrp.length; rw [List.length_map] at this; exact this
  by_cases hlt : i < xs.length
  · obtain ⟨hgo, hyl⟩ := (wk H' (g2.mono fun _ z => .inl z)).2 i xs[i] (List.getElem?_eq_getElem hlt)
    refine .inr ⟨hgo, _, fun H3 h => ⟨xs.length - (i + 1), by omega, ⟨rfl, hlt, h⟩⟩, fun x H'' y => ?_⟩
    obtain ⟨sm, p⟩ := hyl x H'' y
    have w3 : W.WI s2 H'' := W.keep _ _ _ w2 fun a o _ z => sm a o z
    intro s8 H8 C8 cl8 fp8
    refine ht s8 H8 C8 cl8 fp8 x xs[i] _ H'' p _ fun vs hv' => ?_
    refine ⟨wipe_setAll fun j hj => hv j ?_, ?_⟩
    · obtain ⟨w, hw, rfl⟩ := List.mem_map.mp hj
      exact (List.of_mem_zip (a := w.1) (b := w.2) hw).1
    have r3 := ((r2.st (.of_same sm)).cm (Prod.fst : γ × β → γ) (g' := (g, xs[i])) rfl)
    have hv2 : RpAll X.K (fun _ => True) H'' vs ((ups.map fun u => (u.1, fun g' : γ × β => u.2 g'.2)).map fun u => u.2 (g, xs[i])) := by rw [List.map_map]; exact hv'
    obtain ⟨r4, o4⟩ := Rr.setK hv2 r3
    rw [upsmap] at r4
    rw [List.drop_eq_getElem_cons hlt] at h2
    unfold selL at h2
    obtain ⟨b, s5, h5, h6⟩ := run_bind_some h2
    refine hc (g, xs[i]) s2 b s5 h5 _ H'' (toA r4) w3 _ fun H3 g3 w4 => ?_
    cases b with
    | false =>
      simp only [Bool.false_eq_true, if_false] at h6 ⊢
      have g5 : gr W.Av H' H3 := (gr.of_same sm).trans g3
      refine ⟨ys1, ys2, s5, acc, h6, hys, by omega, w4, r2.st (g5.mono fun _ z => .inl z), g2.trans g5, g5.immO hacc nA, hrp.mono (g5.mono fun _ _ => trivial)⟩
    | true =>
      simp only [if_true] at h6 ⊢
      obtain ⟨y1, s6, h7, h8⟩ := run_bind_some h6
      obtain ⟨y2, s7, h9, h10⟩ := run_bind_some h8
      obtain ⟨rfl, rfl⟩ := run_pure_some h10
      intro s9 H9 C9 cl9 fp9
      refine he s9 H9 C9 cl9 fp9 (g, xs[i]) s5 y1 s6 h7 _ H3 ((toA r4).st g3) w4 _ fun v H4 g4 w5 p4 => ?_
      have g5 : gr W.Av H' H4 := ((gr.of_same sm).trans g3).trans g4
      have hacc4 : H4 D = some (.lst acc) := g5.immO hacc nA
      have gD : gr (fun a => W.Av a ∨ a = D) H4 (upd H4 D (.lst (acc ++ [v]))) := ⟨fun a o e z => by
        by_cases ha : a = D
        · subst ha
          rw [hacc4] at e
          cases e
          exact absurd (z (.inr rfl)) (fun z => z)
        · rw [upd_ne ha]; exact e, fun a h => by
        by_cases ha : a = D
        · subst ha; rw [upd_same]; simp
        · rw [upd_ne ha]; exact h⟩
      have g6 : gr (fun a => W.Av a ∨ a = D) H' (upd H4 D (.lst (acc ++ [v]))) := (g5.mono fun _ z => .inl z).trans gD
      have p4 : Rp X.K W.Av H4 v (enc y1) := p4
      refine ⟨acc, hacc4, by omega, ys1 ++ [y1], y2, s6, acc ++ [v], h9, by rw [hys]; simp, by simp; omega, ?_, r2.st g6, ⟨fun a o e z => ?_, fun a h => g6.ex a (g2.ex a h)⟩, upd_same, ?_⟩
      · exact W.keep _ _ _ w5 fun a o z e => by rw [upd_ne (show a ≠ D from fun c => by subst c; exact nA z)]; exact e
      · rw [upd_ne (ne_of_none e hD)]
        exact g5.kp a o (g2.kp a o e z) z
      · rw [List.map_append]
        exact (hrp.mono (g6.mono fun _ _ => trivial)).append (.cons ((p4.any (Imm.imm y1)).mono (gD.mono fun _ _ => trivial)) .nil)
  · have e : i = xs.length := by omega
    subst e
    rw [List.drop_length] at h2
    unfold selL at h2
    obtain ⟨rfl, rfl⟩ := run_pure_some h2
    rw [List.append_nil] at hys
    subst hys
    exact .inl ⟨(wk H' (g2.mono fun _ z => .inl z)).1 _ (Nat.le_refl _), q _ H' (g1.trans g2) w2 (.obj (fun z => z nD) (.lst (by omega) hacc (hrp.any (immDs_map ys))))⟩
theorem selL_true {f : β → m α} {xs : List β} : ∀ {s : S}, MR.run (selL (fun _ => (pure true : m Bool)) f xs) s = MR.run (mapL f xs) s := by
  induction xs with
  | nil => intro s; rfl
  | cons x xs ih =>
    intro s
    unfold selL mapL
    simp only [MR.run_bind, MR.run_pure, Option.bind_some, if_true]
    congr 1
    funext p
    rw [ih]
/-- [e for target in iter] -/
theorem E_lc {scope : Scope} {own : List (Str × Nat)} {ups : List (Nat × (β → PyData))} {fi : γ → m (List β)} {fe : γ × β → m α} [Imm α] (hcm : X.calm = true) (hN : X.N.Nodup) (ok : BlkOk X.N X.env.scope scope own)
    (hi : IV X W H0 ss tg iter fi) (ht : ∀ s H C cl fp, TJ (Bk X scope s H C cl fp) tg ups) (hv : ∀ i ∈ ups.map (·.1), i ∈ own.map (·.2))
    (he : ∀ s H C cl fp, EV (Bk X scope s H C cl fp) W (Rr X.K W.Av H0 (bkS ups own ss)) elt fe) (hs : ∀ x, foldedSetIterable iter X.env x = pure x) :
    EVf X W (Rr X.K W.Av H0 ss) (.ListComp elt [⟨tg, iter, [], 0⟩] scope pos) (fun g => fi g >>= fun xs => mapL (fun y => fe (g, y)) xs >>= fun ys => pure (Ls.mk ys)) := fun g s x s' rn σ H hR hW Q q => by
  refine wE.of (pe_lc hcm hN (piW tg iter) ok pgA (fun _ _ _ _ _ => pts_nil) peA hs) ?_
  obtain ⟨xs, s1, e0, rn⟩ := run_bind_some rn
  obtain ⟨ys, s2, e1, rn⟩ := run_bind_some rn
  obtain ⟨rfl, rfl⟩ := run_pure_some rn
  refine lc_read (fc := fun _ => pure true) (ys := ys) (s' := s2) hi ht hv (fun g s x s' r σ H hR hW Q q => ?_) he (by rw [MR.run_bind, e0]; exact selL_true.trans e1) hR hW q
  obtain ⟨rfl, rfl⟩ := run_pure_some r
  exact q H (.refl _ _) hW
/-- [e for target in iter if c] -/
theorem E_lcIf {scope : Scope} {own : List (Str × Nat)} {ups : List (Nat × (β → PyData))} {fi : γ → m (List β)} {fc : γ × β → m Bool} {fe : γ × β → m α} [Imm α] (hcm : X.calm = true) (hN : X.N.Nodup) (ok : BlkOk X.N X.env.scope scope own)
    (hi : IV X W H0 ss tg iter fi) (ht : ∀ s H C cl fp, TJ (Bk X scope s H C cl fp) tg ups) (hv : ∀ i ∈ ups.map (·.1), i ∈ own.map (·.2))
    (hc : ∀ s H C cl fp, TV (Bk X scope s H C cl fp) W (Rr X.K W.Av H0 (bkS ups own ss)) c fc)
    (he : ∀ s H C cl fp, EV (Bk X scope s H C cl fp) W (Rr X.K W.Av H0 (bkS ups own ss)) elt fe) (hs : ∀ x, foldedSetIterable iter X.env x = pure x) :
    EVf X W (Rr X.K W.Av H0 ss) (.ListComp elt [⟨tg, iter, [c], 0⟩] scope pos) (fun g => fi g >>= fun xs => selL (fun y => fc (g, y)) (fun y => fe (g, y)) xs >>= fun ys => pure (Ls.mk ys)) := fun g s x s' rn σ H hR hW Q q => by
  refine wE.of (pe_lc hcm hN (piW tg iter) ok pgA (fun s H C cl fp => pts_one (ptA s H C cl fp)) peA hs) ?_
  obtain ⟨xs, s1, e0, rn⟩ := run_bind_some rn
  obtain ⟨ys, s2, e1, rn⟩ := run_bind_some rn
  obtain ⟨rfl, rfl⟩ := run_pure_some rn
  exact lc_read (fc := fc) (ys := ys) (s' := s2) hi ht hv (fun g s x s' r σ H hR hW Q q => fun s8 H8 C8 cl8 fp8 => hc s8 H8 C8 cl8 fp8 g s x s' r σ H hR hW Q q) he (by rw [MR.run_bind, e0]; exact e1) hR hW q
/-- x = [..] on one line, x a local -/
theorem S_lc {x : Str} {px spos : Pos} (i : Nat) {scope : Scope} {own : List (Str × Nat)} {ups : List (Nat × (β → PyData))} {fi : γ → m (List β)} {fe : γ × β → m α} [Imm α] (hcm : X.calm = true) (hN : X.N.Nodup) (ok : BlkOk X.N X.env.scope scope own)
    (hx : X.N[i]? = some x) (hxl : X.env.scope.names.lookup x = some .local) (hsw : swapsWith (.ListComp elt [⟨tg, iter, [], 0⟩] scope pos) (some (.Name x px)) spos.line X.env = pure true)
    (hi : IV X W H0 ss tg iter fi) (ht : ∀ s H C cl fp, TJ (Bk X scope s H C cl fp) tg ups) (hv : ∀ i ∈ ups.map (·.1), i ∈ own.map (·.2))
    (he : ∀ s H C cl fp, EV (Bk X scope s H C cl fp) W (Rr X.K W.Av H0 (bkS ups own ss)) elt fe) (hs : ∀ x, foldedSetIterable iter X.env x = pure x) :
    SN X W H0 ss (.Assign [.Name x px] (.ListComp elt [⟨tg, iter, [], 0⟩] scope pos) spos) ((ss.map (SK.cm Prod.fst)).set i (.o fun g' : γ × Ls α => enc g'.2)) (fun g => fi g >>= fun xs => mapL (fun y => fe (g, y)) xs >>= fun ys => pure (Ls.mk ys)) := fun g s x s' rn σ H hR hW D nd => by
  refine wS.of (ps_setLc hcm hN hx hxl hsw (piW tg iter) ok pgA (fun _ _ _ _ _ => pts_nil) peA hs) ?_
  obtain ⟨xs, s1, e0, rn⟩ := run_bind_some rn
  obtain ⟨ys, s2, e1, rn⟩ := run_bind_some rn
  obtain ⟨rfl, rfl⟩ := run_pure_some rn
  refine lc_read (fc := fun _ => pure true) (ys := ys) (s' := s2) hi ht hv (fun g s x s' r σ H hR hW Q q => ?_) he (by rw [MR.run_bind, e0]; exact selL_true.trans e1) hR hW fun v H1 g1 w1 p => ?_
  · obtain ⟨rfl, rfl⟩ := run_pure_some r
    exact q H (.refl _ _) hW
  · obtain ⟨r, t⟩ := Rr.putO i hR hW g1 p
    exact nd _ H1 t w1 r
theorem S_lcIf {x : Str} {px spos : Pos} (i : Nat) {scope : Scope} {own : List (Str × Nat)} {ups : List (Nat × (β → PyData))} {fi : γ → m (List β)} {fc : γ × β → m Bool} {fe : γ × β → m α} [Imm α] (hcm : X.calm = true) (hN : X.N.Nodup) (ok : BlkOk X.N X.env.scope scope own)
    (hx : X.N[i]? = some x) (hxl : X.env.scope.names.lookup x = some .local) (hsw : swapsWith (.ListComp elt [⟨tg, iter, [c], 0⟩] scope pos) (some (.Name x px)) spos.line X.env = pure true)
    (hi : IV X W H0 ss tg iter fi) (ht : ∀ s H C cl fp, TJ (Bk X scope s H C cl fp) tg ups) (hv : ∀ i ∈ ups.map (·.1), i ∈ own.map (·.2))
    (hc : ∀ s H C cl fp, TV (Bk X scope s H C cl fp) W (Rr X.K W.Av H0 (bkS ups own ss)) c fc)
    (he : ∀ s H C cl fp, EV (Bk X scope s H C cl fp) W (Rr X.K W.Av H0 (bkS ups own ss)) elt fe) (hs : ∀ x, foldedSetIterable iter X.env x = pure x) :
    SN X W H0 ss (.Assign [.Name x px] (.ListComp elt [⟨tg, iter, [c], 0⟩] scope pos) spos) ((ss.map (SK.cm Prod.fst)).set i (.o fun g' : γ × Ls α => enc g'.2)) (fun g => fi g >>= fun xs => selL (fun y => fc (g, y)) (fun y => fe (g, y)) xs >>= fun ys => pure (Ls.mk ys)) := fun g s x s' rn σ H hR hW D nd => by
  refine wS.of (ps_setLc hcm hN hx hxl hsw (piW tg iter) ok pgA (fun s H C cl fp => pts_one (ptA s H C cl fp)) peA hs) ?_
  obtain ⟨xs, s1, e0, rn⟩ := run_bind_some rn
  obtain ⟨ys, s2, e1, rn⟩ := run_bind_some rn
  obtain ⟨rfl, rfl⟩ := run_pure_some rn
  exact lc_read (fc := fc) (ys := ys) (s' := s2) hi ht hv (fun g s x s' r σ H hR hW Q q => fun s8 H8 C8 cl8 fp8 => hc s8 H8 C8 cl8 fp8 g s x s' r σ H hR hW Q q) he (by rw [MR.run_bind, e0]; exact e1) hR hW fun v H1 g1 w1 p => by
    obtain ⟨r, t⟩ := Rr.putO i hR hW g1 p
    exact nd _ H1 t w1 r
end

/-! the same, with what is bound told one by one -/
section
variable {S : Type} {m : Type → Type} [Monad m] [MR m S] {γ δ τ ρ α β : Type} [Py α] [Py β] [Py ρ]
variable {X : Cx} {W : Wd S} {H0 : Hp} {ss : List (SK γ)} {e a b c tg iter elt : Expr} {st : Stmt} {rest body : List Stmt} {pos : Pos}
theorem S_forF' (init : γ → δ) {ssL : List (SK (γ × δ))} {ups : List (Nat × (β → PyData))} {fi : γ → m (List β)} {fb : γ → δ → β → m (Fl δ ρ)} {fr : γ → δ → m ρ} (le : LeS (fun g => (g, init g)) ssL ss)
    (hi : IV X W H0 ss tg iter fi) (ht : TJ X tg ups) (hb : BJ X W H0 (loopS ups ssL) body (fun g' => fb g'.1.1 g'.1.2 g'.2) (fun g' => NdF X W H0 ssL ρ g'.1.1))
    (hr : BJ X W H0 ssL rest (fun g' => fr g'.1 g'.2) (fun _ => NdR X W H0 ρ))
    (hc : X.calm = true) (hp : PassesOwn (model X.prog X.w) X.A X.env X.xe) (hs : ∀ x, foldedSetIterable iter X.env x = pure x) :
    BJ X W H0 ss (.For tg iter body [] pos :: rest) (fun g => fi g >>= fun xs => foldF (fun d y => fb g d y) (init g) xs >>= flE (fun d => fr g d)) (fun _ => NdR X W H0 ρ) := S_forF (fb := fun g' => fb g'.1.1 g'.1.2 g'.2) (fr := fun g' => fr g'.1 g'.2) init le hi ht hb hr hc hp hs
theorem S_for' (init : γ → δ) {ssL : List (SK (γ × δ))} {ups : List (Nat × (β → PyData))} {fi : γ → m (List β)} {fb : γ → δ → β → m δ} (le : LeS (fun g => (g, init g)) ssL ss)
    (hi : IV X W H0 ss tg iter fi) (ht : TJ X tg ups) (hb : BJ X W H0 (loopS ups ssL) body (fun g' => fb g'.1.1 g'.1.2 g'.2) (fun g' => NdN X W H0 ssL g'.1.1))
    (hc : X.calm = true) (hp : PassesOwn (model X.prog X.w) X.A X.env X.xe) (hs : ∀ x, foldedSetIterable iter X.env x = pure x) :
    SN X W H0 ss (.For tg iter body [] pos) ssL (fun g => fi g >>= fun xs => foldM' (fun d y => fb g d y) (init g) xs) := S_for (fb := fun g' => fb g'.1.1 g'.1.2 g'.2) init le hi ht hb hc hp hs
theorem S_while' (init : γ → δ) (n : Nat) {ssL : List (SK (γ × δ))} {fc : γ → δ → m Bool} {fb : γ → δ → m δ} (le : LeS (fun g => (g, init g)) ssL ss)
    (ht : TV X W (Rr X.K W.Av H0 ssL) c (fun g' => fc g'.1 g'.2)) (hb : BJ X W H0 ssL body (fun g' => fb g'.1 g'.2) (fun g' => NdN X W H0 ssL g'.1))
    (hp : PassesOwn (model X.prog X.w) X.A X.env X.xe) :
    SN X W H0 ss (.While c body [] pos) ssL (fun g => whileM (fun d => fc g d) (fun d => fb g d) n (init g)) := S_while (fc := fun g' => fc g'.1 g'.2) (fb := fun g' => fb g'.1 g'.2) init n le ht hb hp
theorem S_whileF' (init : γ → δ) (n : Nat) {ssL : List (SK (γ × δ))} {fc : γ → δ → m Bool} {fb : γ → δ → m (Fl δ ρ)} {fr : γ → δ → m ρ} (le : LeS (fun g => (g, init g)) ssL ss)
    (ht : TV X W (Rr X.K W.Av H0 ssL) c (fun g' => fc g'.1 g'.2)) (hb : BJ X W H0 ssL body (fun g' => fb g'.1 g'.2) (fun g' => NdF X W H0 ssL ρ g'.1)) (hr : BJ X W H0 ssL rest (fun g' => fr g'.1 g'.2) (fun _ => NdR X W H0 ρ))
    (hp : PassesOwn (model X.prog X.w) X.A X.env X.xe) :
    BJ X W H0 ss (.While c body [] pos :: rest) (fun g => whileF (fun d => fc g d) (fun d => fb g d) n (init g) >>= flE (fun d => fr g d)) (fun _ => NdR X W H0 ρ) := S_whileF (fc := fun g' => fc g'.1 g'.2) (fb := fun g' => fb g'.1 g'.2) (fr := fun g' => fr g'.1 g'.2) init n le ht hb hr hp
theorem E_lc' {scope : Scope} (own : List (Str × Nat)) {ups : List (Nat × (β → PyData))} {fi : γ → m (List β)} {fe : γ → β → m α} [Imm α] (hcm : X.calm = true) (hN : X.N.Nodup) (ok : BlkOk X.N X.env.scope scope own)
    (hi : IV X W H0 ss tg iter fi) (ht : ∀ s H C cl fp, TJ (Bk X scope s H C cl fp) tg ups) (hv : ∀ i ∈ ups.map (·.1), i ∈ own.map (·.2))
    (he : ∀ s H C cl fp, EV (Bk X scope s H C cl fp) W (Rr X.K W.Av H0 (bkS ups own ss)) elt (fun g' => fe g'.1 g'.2)) (hs : ∀ x, foldedSetIterable iter X.env x = pure x) :
    EVf X W (Rr X.K W.Av H0 ss) (.ListComp elt [⟨tg, iter, [], 0⟩] scope pos) (fun g => fi g >>= fun xs => mapL (fun y => fe g y) xs >>= fun ys => pure (Ls.mk ys)) := E_lc (fe := fun g' => fe g'.1 g'.2) hcm hN ok hi ht hv he hs
theorem E_lcIf' {scope : Scope} (own : List (Str × Nat)) {ups : List (Nat × (β → PyData))} {fi : γ → m (List β)} {fc : γ → β → m Bool} {fe : γ → β → m α} [Imm α] (hcm : X.calm = true) (hN : X.N.Nodup) (ok : BlkOk X.N X.env.scope scope own)
    (hi : IV X W H0 ss tg iter fi) (ht : ∀ s H C cl fp, TJ (Bk X scope s H C cl fp) tg ups) (hv : ∀ i ∈ ups.map (·.1), i ∈ own.map (·.2))
    (hc : ∀ s H C cl fp, TV (Bk X scope s H C cl fp) W (Rr X.K W.Av H0 (bkS ups own ss)) c (fun g' => fc g'.1 g'.2))
    (he : ∀ s H C cl fp, EV (Bk X scope s H C cl fp) W (Rr X.K W.Av H0 (bkS ups own ss)) elt (fun g' => fe g'.1 g'.2)) (hs : ∀ x, foldedSetIterable iter X.env x = pure x) :
    EVf X W (Rr X.K W.Av H0 ss) (.ListComp elt [⟨tg, iter, [c], 0⟩] scope pos) (fun g => fi g >>= fun xs => selL (fun y => fc g y) (fun y => fe g y) xs >>= fun ys => pure (Ls.mk ys)) := E_lcIf (fc := fun g' => fc g'.1 g'.2) (fe := fun g' => fe g'.1 g'.2) hcm hN ok hi ht hv hc he hs
theorem S_lc' {x : Str} {px spos : Pos} (i : Nat) {scope : Scope} (own : List (Str × Nat)) {ups : List (Nat × (β → PyData))} {fi : γ → m (List β)} {fe : γ → β → m α} [Imm α] (hcm : X.calm = true) (hN : X.N.Nodup) (ok : BlkOk X.N X.env.scope scope own)
    (hx : X.N[i]? = some x) (hxl : X.env.scope.names.lookup x = some .local) (hsw : swapsWith (.ListComp elt [⟨tg, iter, [], 0⟩] scope pos) (some (.Name x px)) spos.line X.env = pure true)
    (hi : IV X W H0 ss tg iter fi) (ht : ∀ s H C cl fp, TJ (Bk X scope s H C cl fp) tg ups) (hv : ∀ i ∈ ups.map (·.1), i ∈ own.map (·.2))
    (he : ∀ s H C cl fp, EV (Bk X scope s H C cl fp) W (Rr X.K W.Av H0 (bkS ups own ss)) elt (fun g' => fe g'.1 g'.2)) (hs : ∀ x, foldedSetIterable iter X.env x = pure x) :
    SN X W H0 ss (.Assign [.Name x px] (.ListComp elt [⟨tg, iter, [], 0⟩] scope pos) spos) ((ss.map (SK.cm Prod.fst)).set i (.o fun g' : γ × Ls α => enc g'.2)) (fun g => fi g >>= fun xs => mapL (fun y => fe g y) xs >>= fun ys => pure (Ls.mk ys)) := S_lc (fe := fun g' => fe g'.1 g'.2) i hcm hN ok hx hxl hsw hi ht hv he hs
theorem S_lcIf' {x : Str} {px spos : Pos} (i : Nat) {scope : Scope} (own : List (Str × Nat)) {ups : List (Nat × (β → PyData))} {fi : γ → m (List β)} {fc : γ → β → m Bool} {fe : γ → β → m α} [Imm α] (hcm : X.calm = true) (hN : X.N.Nodup) (ok : BlkOk X.N X.env.scope scope own)
    (hx : X.N[i]? = some x) (hxl : X.env.scope.names.lookup x = some .local) (hsw : swapsWith (.ListComp elt [⟨tg, iter, [c], 0⟩] scope pos) (some (.Name x px)) spos.line X.env = pure true)
    (hi : IV X W H0 ss tg iter fi) (ht : ∀ s H C cl fp, TJ (Bk X scope s H C cl fp) tg ups) (hv : ∀ i ∈ ups.map (·.1), i ∈ own.map (·.2))
    (hc : ∀ s H C cl fp, TV (Bk X scope s H C cl fp) W (Rr X.K W.Av H0 (bkS ups own ss)) c (fun g' => fc g'.1 g'.2))
    (he : ∀ s H C cl fp, EV (Bk X scope s H C cl fp) W (Rr X.K W.Av H0 (bkS ups own ss)) elt (fun g' => fe g'.1 g'.2)) (hs : ∀ x, foldedSetIterable iter X.env x = pure x) :
    SN X W H0 ss (.Assign [.Name x px] (.ListComp elt [⟨tg, iter, [c], 0⟩] scope pos) spos) ((ss.map (SK.cm Prod.fst)).set i (.o fun g' : γ × Ls α => enc g'.2)) (fun g => fi g >>= fun xs => selL (fun y => fc g y) (fun y => fe g y) xs >>= fun ys => pure (Ls.mk ys)) := S_lcIf (fc := fun g' => fc g'.1 g'.2) (fe := fun g' => fe g'.1 g'.2) i hcm hN ok hx hxl hsw hi ht hv hc he hs
end
end TC

namespace TC
open PySem PySem.Spec PyProof.Rows L2
open Py (enc)
def okNames (N : List Str) : Bool := N.all fun x => !(x == ("__debug__" : Str)) && !(x == ("__classdict__" : Str))
theorem okNames_get {N : List Str} (h : okNames N = true) {i : Nat} {x : Str} (e : N[i]? = some x) : (x == ("__debug__" : Str)) = false ∧ (x == ("__classdict__" : Str)) = false := by
  have := List.all_eq_true.mp h x (List.mem_of_getElem? e)
  simpa using this
section
variable {S : Type} {m : Type → Type} [Monad m] [MR m S] {γ α β : Type} [Py α] [Py β] {X : Cx} {W : Wd S} {H0 : Hp} {ss : List (SK γ)} {x : Str} {p pos : Pos} {rest : List Stmt} {tg : Expr}
theorem E_v (i : Nat) (ok : okNames X.N = true) {f : γ → α} (hk : ss[i]? = some (.v fun g => enc (f g)) ∨ ss[i]? = some (.o fun g => enc (f g))) (hN : X.N[i]? = some x) (hv : Vis X.env.scope x) :
    EV X W (Rr X.K W.Av H0 ss) (.Name x p) (fun g => (pure (f g) : m α)) := E_var i hk hN hv (okNames_get ok hN).1 (okNames_get ok hN).2
theorem I_v [Imm β] (i : Nat) (ok : okNames X.N = true) {f : γ → Ls β} (hk : ss[i]? = some (.v fun g => enc (f g))) (hN : X.N[i]? = some x) (hv : Vis X.env.scope x) :
    IV X W H0 ss tg (.Name x p) (fun g => (pure (f g).l : m (List β))) := I_lstV i hk hN hv (okNames_get ok hN).1 (okNames_get ok hN).2
theorem B_ro (i : Nat) (ok : okNames X.N = true) {f : γ → Ls α} [Imm α] (hk : ss[i]? = some (.o fun g => enc (f g))) (hN : X.N[i]? = some x) (hv : Vis X.env.scope x) :
    BJ X W H0 ss (.Return (some (.Name x p)) pos :: rest) (fun g => (pure (f g) : m (Ls α))) (fun _ => NdR X W H0 (Ls α)) := B_retO i hk hN hv (okNames_get ok hN).1 (okNames_get ok hN).2
end

/-! ### a def -/
inductive Ini {γ : Type} (g : γ) : List (SK γ) → List PyData → Prop
  | nil : Ini g [] []
  | u {ss : List (SK γ)} : Ini g ss [] → Ini g (.u :: ss) []
  | v {d : γ → PyData} {x : PyData} {ss : List (SK γ)} {ds : List PyData} : d g = x → Ini g ss ds → Ini g (.v d :: ss) (x :: ds)
theorem Ini.get {γ : Type} {g : γ} : ∀ {ss : List (SK γ)} {ds : List PyData} {i : Nat} {k : SK γ}, Ini g ss ds → ss[i]? = some k → k = .u ∨ ∃ d, k = .v d ∧ ds[i]? = some (d g)
  | _, _, _, _, .nil, h => by simp at h
  | _, _, 0, _, .u t, h => by simp at h; exact .inl h.symm
  | _, _, i + 1, _, .u t, h => by
    rcases Ini.get (i := i) t (by simpa using h) with h | ⟨d, h, h'⟩
    · exact .inl h
    · simp at h'
  | _, _, 0, _, .v e t, h => by simp at h; subst h; exact .inr ⟨_, rfl, by simp [e]⟩
  | _, _, i + 1, _, .v e t, h => by
    rcases Ini.get (i := i) t (by simpa using h) with h | ⟨d, h, h'⟩
    · exact .inl h
    · exact .inr ⟨d, h, by simpa using h'⟩
section
variable {P : Program} {w : World} {K : PySem.W.Frag} {mg : Str → Option Value} {base : Heap} {γ ρ : Type} [Py ρ]
theorem fn_D {x qual : Str} {st : Stmt} {f : Addr} {fd : FuncData} {N ps : List Str} {k n : Nat} (F : Fun K x qual st f fd) (S : FnScope N ps (defScope st)) (ss : List (SK γ)) (mir : γ → Option ρ) (M : List PyData → PyData → Prop) (hps : ps.length = n) (hl : ss.length = N.length)
    (hM : ∀ ds d, M ds d → ds.length = n ∧ ∃ g r, Ini g ss ds ∧ mir g = some r ∧ d = enc r)
    (body : ∀ (cdv : Value) (A : Around) (outer : List Env) (s : Shared) (H : Hp) (E : XK), Room k (A.deeper (envOfC qual (defScope st) s.heap.objs.size f cdv)) →
      BJ (cxOf CX0 P w K mg base N qual (defScope st) f cdv A outer s H E).nox W0 H ss (defBody st) mir (fun _ => NdR (cxOf CX0 P w K mg base N qual (defScope st) f cdv A outer s H E).nox W0 H ρ)) : FnOk P w K mg base CX0 (k + 1) f fd ps (spD K n M) := by
  refine F.ok S (fun vs H Q E h => by rw [h.1, hps]) (fun cdv A outer s H vs Q E hr h => ?_)
  obtain ⟨hv, ds, d, hr1, hm, q⟩ := h
  obtain ⟨e1, g, r, ini, hmir, rfl⟩ := hM ds d hm
  refine ⟨_, pssW _, body cdv A outer s H E hr g () r () (by show (mir g).map _ = _; rw [hmir]; rfl) _ H ?_ trivial _ ?_⟩
  · have hN : ps.length ≤ N.length := by have := congrArg List.length S.pre; rw [List.length_take] at this; omega
    refine ⟨.refl _ _, ?_, fun i kk o h1 h2 => ?_, fun i j d e a h1 => ?_⟩
    · unfold L2.start
      rw [List.length_append, List.length_map, List.length_replicate, hl]
      omega
    · rcases ini.get h1 with rfl | ⟨d', rfl, h3⟩
      · trivial
      · obtain ⟨v, h4, h5⟩ := hr1.get h3
        have hi : i < vs.length := (List.getElem?_eq_some_iff.mp h4).1
        unfold L2.start at h2
        rw [List.getElem?_append_left (by simpa using hi), List.getElem?_map, h4] at h2
        cases h2
        refine ⟨v, rfl, h5.weak fun a z => ?_⟩
        rcases z with z | ⟨j, e, z1, z2⟩
        · exact z
        · rcases ini.get z1 with z | ⟨_, z, _⟩ <;> cases z
    · rcases ini.get h1 with z | ⟨_, z, _⟩ <;> cases z
  · intro v H' g1 _ p
    exact q v H' (fun a o e => g1.kp a o e fun z => z.elim) p
end
end TC

namespace TC
open PySem PySem.Spec PyProof.Rows L2
open Py (enc)

/-! ### an object of the def's own changes -/
section
variable {K : PySem.W.Frag} {Av : Addr → Prop} {H0 H : Hp} {γ : Type} {ss : List (SK γ)} {g : γ} {σ : Sg}
theorem grMut {A : Addr → Prop} {a : Addr} {x o : HO} (h : H a = some x) (mx : ¬ immO x) (hA : A a) : gr A H (upd H a o) := ⟨fun b u e i => by
  by_cases hb : b = a
  · subst hb
    rw [h] at e
    cases e
    exact absurd (i hA) mx
  · rw [upd_ne hb]; exact e, fun b z => by
  by_cases hb : b = a
  · subst hb; rw [upd_same]; simp
  · rw [upd_ne hb]; exact z⟩
theorem Own.seto' {i : Nat} {d d' : γ → PyData} (hk : ss[i]? = some (.o d)) {a : Addr} (h : Own (ss.set i (.o d')) σ a) : Own ss σ a := by
  obtain ⟨j, e, h1, h2⟩ := h
  by_cases hj : i = j
  · subst hj; exact ⟨i, d, hk, h2⟩
  · rw [List.getElem?_set_ne hj] at h1
    exact ⟨j, e, h1, h2⟩
theorem Rr.mut (r : Rr K Av H0 ss g σ H) (i : Nat) {d : γ → PyData} (d' : γ → PyData) (hk : ss[i]? = some (.o d)) {a : Addr} (ha : σ[i]? = some (some (.ref a))) {o : HO} (mo : ¬ immO o)
    (p : RpO K (fun b => Av b ∨ Own ss σ b) (upd H a o) a (d' g)) : Rr K Av H0 (ss.set i (.o d')) g σ (upd H a o) ∧ gr (fun b => Av b ∨ Own ss σ b) H (upd H a o) := by
  obtain ⟨a', e', q', n0, nA, x, hx, mx⟩ := r.slot i _ _ hk ha
  cases e'
  have own_a : Own ss σ a := ⟨i, d, hk, ha⟩
  have gA : gr (fun b => Av b ∨ Own ss σ b) H (upd H a o) := grMut hx mx (.inr own_a)
  have sub : ∀ b, (Av b ∨ Own (ss.set i (.o d')) σ b) → (Av b ∨ Own ss σ b) := fun b z => z.imp id (Own.seto' hk)
  refine ⟨⟨⟨fun b u e z => ?_, fun b z => gA.ex b (r.base.ex b z)⟩, by rw [List.length_set]; exact r.len, fun j k o' h1 h2 => ?_, fun j l e f b h1 h2 h3 h4 => ?_⟩, gA⟩
  · rw [upd_ne (ne_of_none e n0)]
    exact r.base.kp b u e z
  · by_cases hj : i = j
    · subst hj
      rw [List.getElem?_set_self'] at h1
      rw [hk] at h1
      cases h1
      rw [ha] at h2
      cases h2
      exact ⟨a, rfl, p.chg fun b z _ => sub b z, n0, nA, o, upd_same, mo⟩
    · rw [List.getElem?_set_ne hj] at h1
      have s := r.slot j k o' h1 h2
      cases k with
      | u => trivial
      | k w => exact s
      | v e =>
        obtain ⟨v, ev, p⟩ := s
        exact ⟨v, ev, (p.mono gA).weak sub⟩
      | o e =>
        obtain ⟨b, ev, p, n0', nA', y, hy, my⟩ := s
        have hb : b ≠ a := fun c => by
          subst c
          subst ev
          exact hj (r.one i j _ _ _ hk h1 ha h2)
        have gB : gr (fun c => c = a) H (upd H a o) := grMut hx mx rfl
        exact ⟨b, ev, (p.mono2 gA gB hb).chg fun c z _ => sub c z, n0', nA', y, by rw [upd_ne hb]; exact hy, my⟩
  · have get : ∀ {j : Nat} {e : γ → PyData}, (ss.set i (.o d'))[j]? = some (.o e) → ∃ e', ss[j]? = some (.o e') := fun {j e} h => by
      by_cases hj : i = j
      · subst hj; exact ⟨d, hk⟩
      · rw [List.getElem?_set_ne hj] at h; exact ⟨e, h⟩
    obtain ⟨e1, q1⟩ := get h1
    obtain ⟨e2, q2⟩ := get h2
    exact r.one j l e1 e2 b q1 q2 h3 h4
end
def appM {α : Type} (xs : Ls α) (y : α) : Option (Ls α) := if xs.l.length < 1000000 then some ⟨xs.l ++ [y]⟩ else none
def extM {α : Type} (xs ys : Ls α) : Option (Ls α) := if xs.l.length + ys.l.length < 1000000 then some ⟨xs.l ++ ys.l⟩ else none
def powM (i j : Int) : Option Int := if 0 ≤ j ∧ j ≤ 1000000 ∧ i.natAbs < 2 ^ 64 then some (i ^ j.toNat) else none
/-- xs[lo:hi] -/
def cutL {α : Type} (xs : List α) (lo hi : Option Int) : List α := (xs.drop (HT.sIx xs.length 0 lo)).take (HT.sIx xs.length xs.length hi - HT.sIx xs.length 0 lo)
theorem cutL_map {α : Type} [Py α] (xs : List α) (lo hi : Option Int) : (cutL xs lo hi).map enc = ((xs.map enc).drop (HT.sIx xs.length 0 lo)).take (HT.sIx xs.length xs.length hi - HT.sIx xs.length 0 lo) := by
  unfold cutL
  rw [List.map_take, List.map_drop]
theorem cut_all {α : Type} [Py α] {K : PySem.W.Frag} {A : Addr → Prop} {H : Hp} {vs : List V} {xs : List α} (h : RpAll K A H vs (xs.map enc)) (lo hi : Option Int) : RpAll K A H (cutV vs lo hi) ((cutL xs lo hi).map enc) := by
  have hl := h.length
  rw [List.length_map] at hl
  rw [cutL_map]
  unfold cutV
  rw [hl]
  exact (h.drop _).take _
theorem cut_whole {α : Type} (xs : List α) (lo hi : Option Int) (h : HT.sIx xs.length 0 lo = 0 ∧ HT.sIx xs.length xs.length hi = xs.length) : cutL xs lo hi = xs := by
  unfold cutL
  rw [h.1, h.2]
  simp
section
variable {S : Type} {m : Type → Type} [Monad m] [MR m S] {γ δ τ ρ α β : Type} [Py α] [Py β] [Py ρ]
variable {X : Cx} {W : Wd S} {H0 : Hp} {R : γ → Sg → Hp → Prop} {ss : List (SK γ)} {e a b c tg iter elt : Expr} {st : Stmt} {rest body : List Stmt} {pos p p1 p2 p3 : Pos} {x : Str}
/-- x.append(e) -/
theorem S_app (i : Nat) (ok : okNames X.N = true) {fx : γ → Ls α} {f : γ → m α} [Imm α] (hk : ss[i]? = some (.o fun g => enc (fx g))) (n1 : NS e) (he : EV X W (Rr X.K W.Av H0 ss) e f) (hN : X.N[i]? = some x) (hv : Vis X.env.scope x)
    (hs : swapsWith (.Call (.Attribute (.Name x p1) "append" p2) [e] [] p3) none pos.line X.env = pure false) (hbase : attributeBase (.Name x p1) "append" X.env (eval (.Name x p1) X.env) = eval (.Name x p1) X.env) (hline : (p2.endLine == p3.line) = true) :
    SN X W H0 ss (.Expr (.Call (.Attribute (.Name x p1) "append" p2) [e] [] p3) pos) ((ss.map (SK.cm Prod.fst)).set i (.o fun g' : γ × Ls α => enc g'.2)) (fun g => f g >>= fun y => MR.lift (appM (fx g) y)) := fun g s t s' rn σ H hR hW D nd => by
  obtain ⟨y, s1, e0, rn⟩ := run_bind_some rn
  obtain ⟨h3, rfl⟩ := run_lift_some rn
  unfold appM at h3
  split at h3
  · rename_i hlt
    cases h3
    have hi : i < ss.length := (List.getElem?_eq_some_iff.mp hk).1
    obtain ⟨w, hs'⟩ : ∃ w, σ[i]? = some w := ⟨_, List.getElem?_eq_getElem (show i < σ.length by rw [← hR.len]; exact hi)⟩
    obtain ⟨a, rfl, q, _⟩ := hR.slot i _ _ hk hs'
    cases q with
    | lst z h t =>
      refine wS.of (ps_expr (pe_bm PySem.F.plainAttrs_list PySem.F.slot_list_append PySem.F.type_list_append mt_append (pe_var hN hv (okNames_get ok hN).1 (okNames_get ok hN).2) (pa_cons (peW e) pa_nil (n1 _ _)) hbase (by rw [n1]; unfold starEach; rfl) hline (n1 _ _) (by unfold starEach; rfl)) hs) ?_
      refine ⟨_, hs', .inl ⟨rfl, _, .of h⟩, he g s y _ e0 σ H hR hW _ fun v H1 g1 w1 p1 => ?_⟩
      have r1 := hR.st g1
      obtain ⟨a', e', q', n0, nA, x', hx', mx'⟩ := r1.slot i _ _ hk hs'
      cases e'
      cases q' with
      | lst z' h' t' =>
        rename_i xs'
        have hlen := t'.length
        rw [List.length_map] at hlen
        have hlt' : xs'.length < 1000000 := by rw [hlen]; exact hlt
        have hl2 : xs'.length < sizeLine := Nat.lt_of_lt_of_le hlt' (by decide)
        refine ⟨a, xs', v, rfl, rfl, h', hl2, ?_⟩
        have r2 := r1.cm (Prod.fst : γ × Ls α → γ) (g' := (g, ⟨(fx g).l ++ [y]⟩)) rfl
        have hk' : (ss.map (SK.cm (Prod.fst : γ × Ls α → γ)))[i]? = some (.o fun g' => enc (fx g'.1)) := by rw [List.getElem?_map, hk]; rfl
        have gT : gr (fun _ => True) H1 (upd H1 a (.lst (xs' ++ [v]))) := grMut h' (fun z => z) trivial
        obtain ⟨r3, g3⟩ := r2.mut i (fun g' => enc g'.2) hk' hs' (o := .lst (xs' ++ [v])) (fun z => z) (.lst (by rw [List.length_append]; show xs'.length + 1 ≤ sizeLine; omega) upd_same (by
          show RpAll _ _ _ _ (List.map enc ((fx g).l ++ [y]))
          rw [List.map_append]
          exact ((((t'.any (immDs_map (fx g).l)).append (.cons (p1.any (Imm.imm y)) .nil)).mono gT).any (by rw [← List.map_append]; exact immDs_map _))))
        refine nd σ _ ⟨?_, fun b zb => .inl ?_⟩ ?_ r3
        · exact (Tr.of_gr g1).g.trans (g3.mono fun b zb => zb.imp id Own.cm)
        · exact Own.cm (Own.seto' hk' zb)
        · exact W.keep _ _ _ w1 fun b o zb eb => by rw [upd_ne (show b ≠ a from fun c => by subst c; exact nA zb)]; exact eb
  · cases h3
/-- parts of a slice -/
def PV (X : Cx) (W : Wd S) (R : γ → Sg → Hp → Prop) (e : Option Expr) (f : γ → m (Option Int)) : Prop :=
  ∃ t, PO X e t ∧ ∀ g s x s', MR.run (f g) s = some (x, s') → ∀ σ H, R g σ H → W.WI s H → ∀ Q : Option Int → Hp → Prop, (∀ H', gr W.Av H H' → W.WI s' H' → Q x H') → t σ H Q
theorem P_none : PV X W R none (fun _ => (pure none : m (Option Int))) := ⟨_, po_none, fun g s x s' r σ H hR hW Q q => by
  obtain ⟨rfl, rfl⟩ := run_pure_some r
  exact q H (.refl _ _) hW⟩
theorem P_some {f : γ → m Int} (h : EV X W R e f) : PV X W R (some e) (fun g => f g >>= fun i => pure (some i)) := ⟨_, po_some (peW e), fun g s x s' r σ H hR hW Q q => by
  obtain ⟨i, s1, h1, r⟩ := run_bind_some r
  obtain ⟨rfl, rfl⟩ := run_pure_some r
  exact h g s i _ h1 σ H hR hW _ fun v H' g1 w1 p => ⟨i, p.int_inv, q H' g1 w1⟩⟩
/-- t[lo:hi] of a tuple -/
theorem E_slT [Imm α] {lo hi : Option Expr} {f : γ → m (List α)} {k l : γ → m (Option Int)} (sb : Stb W R) (h : EV X W R e f) (hl : PV X W R lo k) (hh : PV X W R hi l) : EV X W R (.Subscript e (.Slice lo hi none p) pos) (fun g => f g >>= fun x => k g >>= fun i => l g >>= fun j => pure (cutL x i j)) := fun g s x s' r σ H hR hW Q q => by
  obtain ⟨z0, s1, e0, r⟩ := run_bind_some r
  obtain ⟨z1, s2, e1, r⟩ := run_bind_some r
  obtain ⟨z2, s3, e2, r⟩ := run_bind_some r
  obtain ⟨rfl, rfl⟩ := run_pure_some r
  obtain ⟨tl, pl, hl⟩ := hl
  obtain ⟨th, ph, hh⟩ := hh
  refine wE.of (pe_slice sl_tupA (peW e) pl ph) (h g s z0 s1 e0 σ H hR hW _ fun v H1 g1 w1 p1 => hl g s1 z1 s2 e1 σ H1 (sb _ _ _ _ hR g1) w1 _ fun H2 g2 w2 => hh g s2 z2 _ e2 σ H2 (sb _ _ _ _ (sb _ _ _ _ hR g1) g2) w2 _ fun H3 g3 w3 => ?_)
  obtain ⟨a, xs, rfl, hz, hs, hx⟩ := ((p1.mono g2).mono g3).tup_inv
  have hlen := hx.length
  rw [List.length_map] at hlen
  refine ⟨a, xs, rfl, hs, fun hw => q _ H3 ((g1.trans g2).trans g3) w3 ?_, fun _ t ht => q _ _ (((g1.trans g2).trans g3).trans (.new ht)) (W.new w3 ht) (.tup (Nat.le_trans (cutV_length xs _ _) hz) (.of upd_same) ((cut_all hx _ _).mono (.new ht)))⟩
  rw [cut_whole z0 z1 z2 (by rw [← hlen]; exact hw)]
  exact .tup hz hs hx
/-- xs[lo:hi] of a list -/
theorem E_slL [Imm α] {lo hi : Option Expr} {f : γ → m (Ls α)} {k l : γ → m (Option Int)} (sb : Stb W R) (h : EV X W R e f) (hl : PV X W R lo k) (hh : PV X W R hi l) : EVf X W R (.Subscript e (.Slice lo hi none p) pos) (fun g => f g >>= fun x => k g >>= fun i => l g >>= fun j => pure (Ls.mk (cutL x.l i j))) := fun g s x s' r σ H hR hW Q q => by
  obtain ⟨z0, s1, e0, r⟩ := run_bind_some r
  obtain ⟨z1, s2, e1, r⟩ := run_bind_some r
  obtain ⟨z2, s3, e2, r⟩ := run_bind_some r
  obtain ⟨rfl, rfl⟩ := run_pure_some r
  obtain ⟨tl, pl, hl⟩ := hl
  obtain ⟨th, ph, hh⟩ := hh
  refine wE.of (pe_slice sl_list (peW e) pl ph) (h g s z0 s1 e0 σ H hR hW _ fun v H1 g1 w1 p1 => hl g s1 z1 s2 e1 σ H1 (sb _ _ _ _ hR g1) w1 _ fun H2 g2 w2 => hh g s2 z2 _ e2 σ H2 (sb _ _ _ _ (sb _ _ _ _ hR g1) g2) w2 _ fun H3 g3 w3 => ?_)
  obtain ⟨a, xs, rfl, hn, hz, hs, hx⟩ := ((p1.mono g2).mono g3).lst_inv
  have g4 := (g1.trans g2).trans g3
  exact ⟨a, xs, rfl, .of hs, fun t ht => q _ _ (g4.trans (.new ht)) (W.new w3 ht) (.obj (fun z => g4.ex t z ht) (.lst (Nat.le_trans (cutV_length xs _ _) hz) upd_same (((cut_all hx _ _).mono (.new ht)).any (immDs_map _))))⟩
/-- t + u of tuples -/
def catM {α : Type} (x y : List α) : Option (List α) := if x.length + y.length ≤ 1000000 then some (x ++ y) else none
theorem E_catT (sb : Stb W R) {f k : γ → m (List α)} (ha : EV X W R a f) (hb : EV X W R b k) : EV X W R (.BinOp a .Add b pos) (fun g => f g >>= fun x => k g >>= fun y => MR.lift (catM x y)) := fun g s x s' r σ H hR hW Q q => by
  obtain ⟨z0, s1, e0, r⟩ := run_bind_some r
  obtain ⟨z1, s2, e1, r⟩ := run_bind_some r
  obtain ⟨h3, rfl⟩ := run_lift_some r
  unfold catM at h3
  split at h3
  · rename_i hlt
    cases h3
    refine wE.of (pe_op op_catA (peW a) (peW b)) (EV.two sb ha hb e0 e1 hR hW fun v u H' g1 w1 p1 p2 => ?_)
    obtain ⟨a1, xs, rfl, hz, hs, hx⟩ := p1.tup_inv
    obtain ⟨a2, ys, rfl, hz', hs', hy⟩ := p2.tup_inv
    have l1 := hx.length
    have l2 := hy.length
    rw [List.length_map] at l1 l2
    have hsz : xs.length + ys.length ≤ sizeLine := by rw [l1, l2]; exact Nat.le_trans hlt (by decide)
    refine ⟨a1, a2, xs, ys, rfl, rfl, hs, hs', hsz, fun e => q _ H' g1 w1 ?_, fun _ e => q _ H' g1 w1 ?_, fun _ _ t ht => q _ _ (g1.trans (.new ht)) (W.new w1 ht) (.tup (by rw [List.length_append]; exact hsz) (.of upd_same) ?_)⟩
    · subst e
      have : z0 = [] := List.length_eq_zero_iff.mp l1.symm
      subst this
      exact p2
    · subst e
      have : z1 = [] := List.length_eq_zero_iff.mp l2.symm
      subst this
      rw [List.append_nil]
      exact p1
    · rw [List.map_append]
      exact (hx.append hy).mono (.new ht)
  · cases h3
theorem E_pow (sb : Stb W R) {f k : γ → m Int} (ha : EV X W R a f) (hb : EV X W R b k) : EV X W R (.BinOp a .Pow b pos) (fun g => f g >>= fun i => k g >>= fun j => MR.lift (powM i j)) :=
  E_opI powM (fun {_} => op_pow) (fun i j z h => by
    unfold powM at h
    split at h
    · rename_i q
      cases h
      exact ⟨q, rfl⟩
    · cases h) sb ha hb
/-- int(e) of an int -/
theorem E_intI {f : γ → m Int} (hm : X.mg "int" = none) (hg : Gl X "int") (sb : Stb W R) (n : NS a) (h : EV X W R a f) : EV X W R (.Call (.Name "int" p) [a] [] pos) f := fun g s y s' r σ H hR hW Q q => by
  refine ty_run call_int1 hg hm (by decide +kernel) (ns1 n) (by decide) (by decide) (A1_run sb n h r hR hW fun v H1 g1 w1 p1 => ?_)
  exact .inl ⟨y, by rw [p1.int_inv], q _ _ g1 w1 (.int _)⟩
theorem E_intB {f : γ → m Bool} (hm : X.mg "int" = none) (hg : Gl X "int") (sb : Stb W R) (n : NS a) (h : EV X W R a f) : EV X W R (.Call (.Name "int" p) [a] [] pos) (fun g => f g >>= fun b => pure (if b then 1 else 0 : Int)) := fun g s y s' r σ H hR hW Q q => by
  obtain ⟨z0, s1, e0, r⟩ := run_bind_some r
  obtain ⟨rfl, rfl⟩ := run_pure_some r
  refine ty_run call_int1 hg hm (by decide +kernel) (ns1 n) (by decide) (by decide) (A1_run sb n h e0 hR hW fun v H1 g1 w1 p1 => ?_)
  exact .inr ⟨z0, by rw [p1.bl_inv], q _ _ g1 w1 (.int _)⟩
/-! the script -/
theorem SqL_gr {K : PySem.W.Frag} {A : Addr → Prop} {H H' : Hp} {a : Addr} {xs : List V} (g : gr A H H') (n : ¬ A a) (h : SqL K H a xs) : SqL K H' a xs := by
  rcases h with h | h
  · exact .inl (g.rd (fun z => absurd z n) h)
  · exact .inr h
theorem E_scLen {i : Nat} {a : Addr} {ns : List Int} (ok : okNames X.N = true) (hS : SqL X.K H0 a (ns.map V.int)) (nA : ¬ W.Av a) (hk : ss[i]? = some (.k (.ref a))) (hN : X.N[i]? = some x) (hv : Vis X.env.scope x) (hm : X.mg "len" = none) (hg : Gl X "len") :
    EV X W (Rr X.K W.Av H0 ss) (.Call (.Name "len" p) [.Name x p1] [] pos) (fun _ => (pure (ns.length : Int) : m Int)) := fun g s y s' r σ H hR hW Q q => by
  obtain ⟨rfl, rfl⟩ := run_pure_some r
  have hi : i < ss.length := (List.getElem?_eq_some_iff.mp hk).1
  obtain ⟨w, hs'⟩ : ∃ w, σ[i]? = some w := ⟨_, List.getElem?_eq_getElem (show i < σ.length by rw [← hR.len]; exact hi)⟩
  have e := hR.slot i _ _ hk hs'
  refine blt_run call_len_seq hg hm PySem.boot_len (ns1 (by intro _ _; rfl)) (by decide) (by decide) (wA.of (pa_cons (pe_var hN hv (okNames_get ok hN).1 (okNames_get ok hN).2) pa_nil) ⟨.ref a, by rw [hs', e], ?_⟩)
  exact ⟨a, _, rfl, .inl (SqL_gr hR.base nA hS), by rw [List.length_map]; exact q _ H (.refl _ _) hW (.int _)⟩
theorem E_scIx {f : γ → m Int} {i : Nat} {a : Addr} {ns : List Int} (ok : okNames X.N = true) (hS : SqL X.K H0 a (ns.map V.int)) (nA : ¬ W.Av a) (hk : ss[i]? = some (.k (.ref a))) (hN : X.N[i]? = some x) (hv : Vis X.env.scope x) (h : EV X W (Rr X.K W.Av H0 ss) e f) (hp : PlainIx e := by exact fun _ _ => rfl) :
    EV X W (Rr X.K W.Av H0 ss) (.Subscript (.Name x p1) e pos) (fun g => f g >>= fun i => MR.lift (atI ns i)) := fun g s y s' r σ H hR hW Q q => by
  obtain ⟨z0, s1, e0, r⟩ := run_bind_some r
  obtain ⟨h3, rfl⟩ := run_lift_some r
  have hi : i < ss.length := (List.getElem?_eq_some_iff.mp hk).1
  obtain ⟨w, hs'⟩ : ∃ w, σ[i]? = some w := ⟨_, List.getElem?_eq_getElem (show i < σ.length by rw [← hR.len]; exact hi)⟩
  have e' := hR.slot i _ _ hk hs'
  refine wE.of (pe_ix ix_list (pe_var hN hv (okNames_get ok hN).1 (okNames_get ok hN).2) (peW e) hp) ⟨.ref a, by rw [hs', e'], h g s z0 _ e0 σ H hR hW _ fun v H1 g1 w1 p1 => ?_⟩
  have hI : atI (ns.map V.int) z0 = some (.int y) := by
    unfold atI at h3 ⊢
    rw [List.length_map]
    cases q1 : ixN ns.length z0 with
    | none => rw [q1] at h3; cases h3
    | some j =>
      rw [q1] at h3
      have h3 : ns[j]? = some y := h3
      show (ns.map V.int)[j]? = _
      rw [List.getElem?_map, h3]; rfl
  exact ⟨a, _, _, _, rfl, p1.int_inv, SqL_gr (hR.base.trans g1) nA hS, hI, q _ _ g1 w1 (.int _)⟩
end

/-! ### the law's own draws -/
def kDraws : Key := .inr "draws"
def kAt : Key := .inr "at"
def Wl (a D : Addr) (ds : List Int) : Wd Int where
  Av b := b = a ∨ b = D
  WI n H := H a = some (.dK [(kDraws, .ref D), (kAt, .int n)]) ∧ H D = some (.lst (ds.map V.int)) ∧ 0 ≤ n
  old n H b h z := by
    rcases z with rfl | rfl
    · rw [h.1]; simp
    · rw [h.2.1]; simp
  keep n H H' h k := ⟨k a _ (.inl rfl) h.1, k D _ (.inr rfl) h.2.1, h.2.2⟩
/-- the next draw below many -/
def nxt (ds : List Int) (many : Int) : SM Int Int := fun n =>
  if (ds.length : Int) < n + 1 then some (0, n + 1) else (atI ds n).bind fun x => (modM x many).map fun r => (r, n + 1)
def spN (K : PySem.W.Frag) : Sp := fun vs H Q _ => vs.length = 2 ∧ ∃ (a D : Addr) (ds : List Int) (n many r n' : Int), vs = [.ref a, .int many] ∧ (Wl a D ds).WI n H ∧ nxt ds many n = some (r, n') ∧ ∀ H', gr (Wl a D ds).Av H H' → (Wl a D ds).WI n' H' → Q (.int r) H'
def spH (mir : List Int → SM Int Bool) : Sp := fun vs H Q _ => vs.length = 1 ∧ ∃ (a D : Addr) (ds : List Int) (n : Int) (b : Bool) (n' : Int), vs = [.ref a] ∧ (Wl a D ds).WI n H ∧ mir ds n = some (b, n') ∧ ∀ H', gr (Wl a D ds).Av H H' → (Wl a D ds).WI n' H' → Q (.bl b) H'
structure DfnN (P : Program) (w : World) (K : PySem.W.Frag) (mg : Str → Option Value) (base : Heap) (A : Around) : Prop where
  ex : ∃ k f fd ps, FnOk P w K mg base CX0 k f fd ps (spN K) ∧ Room k A ∧ mg "_law_next" = some (.ref f) ∧ PySem.W.keepIn K (.ref f) = true ∧ Binds K fd ps []
section
variable {γ : Type} {X : Cx} {a D : Addr} {ds : List Int} {H0 : Hp} {ss : List (SK γ)} {e : Expr} {x : Str} {p p1 pos : Pos}
/-- _law_next(w, e) -/
theorem E_next {f : γ → SM Int Int} (i : Nat) (ok : okNames X.N = true) (N : DfnN X.prog X.w X.K X.mg X.base X.A) (hg : Gl X "_law_next") (hk : ss[i]? = some (.k (.ref a))) (hN : X.N[i]? = some x) (hv : Vis X.env.scope x) (n1 : NS e) (h : EV X (Wl a D ds) (Rr X.K (Wl a D ds).Av H0 ss) e f) :
    EV X (Wl a D ds) (Rr X.K (Wl a D ds).Av H0 ss) (.Call (.Name "_law_next" p) [.Name x p1, e] [] pos) (fun g => f g >>= fun n => nxt ds n) := fun g s y s' r σ H hR hW Q q => by
  obtain ⟨z0, s1, e0, r⟩ := run_bind_some r
  obtain ⟨k, fa, fd, ps, F, hr, hm, hkp, hb⟩ := N.ex
  have hi : i < ss.length := (List.getElem?_eq_some_iff.mp hk).1
  obtain ⟨w, hs'⟩ : ∃ w, σ[i]? = some w := ⟨_, List.getElem?_eq_getElem (show i < σ.length by rw [← hR.len]; exact hi)⟩
  have e' := hR.slot i _ _ hk hs'
  refine wE.of (pe_call F hr hg hm hkp hb (dvs := []) .nil pass0 (pa_cons (pe_var hN hv (okNames_get ok hN).1 (okNames_get ok hN).2) (pa_cons (peW e) pa_nil (n1 _ _))) (by decide) (by rfl) (by rw [backTo_any, n1]; unfold starEach; rfl)) ⟨.ref a, by rw [hs', e'], h g s z0 s1 e0 σ H hR hW _ fun v H1 g1 w1 p1 => ?_⟩
  refine ⟨rfl, a, D, ds, s1, z0, y, s', by rw [p1.int_inv]; rfl, w1, r, fun H2 g2 w2 => q _ H2 (g1.trans g2) w2 (.int _)⟩
end
section
variable {P : Program} {w : World} {K : PySem.W.Frag} {mg : Str → Option Value} {base : Heap}
/-- _law_holds -/
theorem fn_H {x qual : Str} {st : Stmt} {f : Addr} {fd : FuncData} {N ps : List Str} {k : Nat} (F : Fun K x qual st f fd) (S : FnScope N ps (defScope st)) (mir : List Int → SM Int Bool) (hps : ps.length = 1)
    (body : ∀ (a D : Addr) (ds : List Int) (cdv : Value) (A : Around) (outer : List Env) (s : Shared) (H : Hp) (E : XK), Room k (A.deeper (envOfC qual (defScope st) s.heap.objs.size f cdv)) →
      BJ (cxOf CX0 P w K mg base N qual (defScope st) f cdv A outer s H E).nox (Wl a D ds) H (.k (.ref a) :: List.replicate (N.length - 1) (.u : SK Unit)) (defBody st) (fun _ => mir ds) (fun _ => NdR (cxOf CX0 P w K mg base N qual (defScope st) f cdv A outer s H E).nox (Wl a D ds) H Bool)) : FnOk P w K mg base CX0 (k + 1) f fd ps (spH mir) := by
  refine F.ok S (fun vs H Q E h => by rw [h.1, hps]) (fun cdv A outer s H vs Q E hr h => ?_)
  obtain ⟨hv, a, D, ds, n, b, n', rfl, hW, hmir, q⟩ := h
  refine ⟨_, pssW _, body a D ds cdv A outer s H E hr () n b n' hmir _ H ?_ hW _ ?_⟩
  · have hN : ps.length ≤ N.length := by have := congrArg List.length S.pre; rw [List.length_take] at this; omega
    refine ⟨.refl _ _, ?_, fun i kk o h1 h2 => ?_, fun i j d e a' h1 => ?_⟩
    · unfold L2.start
      simp
    · cases i with
      | zero =>
        simp at h1
        subst h1
        unfold L2.start at h2
        simp at h2
        exact h2.symm
      | succ i =>
        rw [List.getElem?_cons_succ, List.getElem?_replicate] at h1
        split at h1
        · cases h1; trivial
        · cases h1
    · cases i with
      | zero => simp at h1
      | succ i =>
        rw [List.getElem?_cons_succ, List.getElem?_replicate] at h1
        split at h1 <;> cases h1
  · intro v H' g1 w1 p
    have e : v = .bl b := p.bl_inv
    subst e
    exact q H' g1 w1
end
end TC

namespace TC
open PySem PySem.Spec PyProof.Rows L2
open Py (enc)
abbrev fuel : Nat := 1000000000000000000000000000000
/-! a tuple of any length taken apart -/
def un2 {α : Type} : List α → Option (α × α)
  | [a, b] => some (a, b)
  | _ => none
def un3 {α : Type} : List α → Option (T3 α α α)
  | [a, b, c] => some ⟨a, b, c⟩
  | _ => none
def un4 {α : Type} : List α → Option (T4 α α α α)
  | [a, b, c, d] => some ⟨a, b, c, d⟩
  | _ => none
theorem un2_ok {α : Type} [Py α] : ∀ (x : List α) y, un2 x = some y → (enc y : PyData) = enc x
  | [a, b], y, h => by cases h; rfl
  | [], _, h => nomatch h
  | [_], _, h => nomatch h
  | _ :: _ :: _ :: _, _, h => nomatch h
theorem un3_ok {α : Type} [Py α] : ∀ (x : List α) y, un3 x = some y → (enc y : PyData) = enc x
  | [a, b, c], y, h => by cases h; rfl
  | [], _, h => nomatch h
  | [_], _, h => nomatch h
  | [_, _], _, h => nomatch h
  | _ :: _ :: _ :: _ :: _, _, h => nomatch h
theorem un4_ok {α : Type} [Py α] : ∀ (x : List α) y, un4 x = some y → (enc y : PyData) = enc x
  | [a, b, c, d], y, h => by cases h; rfl
  | [], _, h => nomatch h
  | [_], _, h => nomatch h
  | [_, _], _, h => nomatch h
  | [_, _, _], _, h => nomatch h
  | _ :: _ :: _ :: _ :: _ :: _, _, h => nomatch h
/-! a module's constant -/
def KC (K : PySem.W.Frag) (a : Addr) {α : Type} [Py α] (x : α) : Prop := ∀ (A : Addr → Prop) (H : Hp), Rp K A H (.ref a) (enc x)
theorem kc_of {K : PySem.W.Frag} {a : Addr} {o : Obj} {its : Array Value} {n : Nat} {vs : List V} {α : Type} [Py α] {x : α} {ds : List PyData} (hk : K.lookup a = some o) (hc : o.cls = .type "tuple") (hd : o.data = .seq its n) (hz : its.size ≤ sizeLine) (hv : Vals vs its.toList) (hx : enc x = .tuple ds) (hr : ∀ A H, RpAll K A H vs ds) : KC K a x := fun A H => by
  rw [hx]
  refine .tup ?_ (.inr ⟨o, its, n, hk, hc, hd, hz, hv⟩) (hr A H)
  rw [hv.length]
  simpa using hz
section
variable {S : Type} {m : Type → Type} [Monad m] [MR m S] {γ α : Type} [Py α] {X : Cx} {W : Wd S} {R : γ → Sg → Hp → Prop} {x : Str} {pos : Pos}
theorem E_const {a : Addr} {v : α} (c : KC X.K a v) (hg : Gl X x) (hm : X.mg x = some (.ref a)) (hd : (x == ("__debug__" : Str)) = false := by decide) : EV X W R (.Name x pos) (fun _ => (pure v : m α)) := fun g s y s' r σ H hR hW Q q => by
  obtain ⟨rfl, rfl⟩ := run_pure_some r
  exact wE.of (pe_glob hg hm (v := .ref a) rfl hd) (q _ H (.refl _ _) hW (c _ _))
end
/-! the law's draws -/
def spDr (K : PySem.W.Frag) (mir : List Int → Int → Option (Ls Int)) : Sp := fun vs H Q _ => vs.length = 2 ∧ ∃ (a : Addr) (ns : List Int) (many : Int) (l : Ls Int), vs = [.ref a, .int many] ∧ SqL K H a (ns.map V.int) ∧ mir ns many = some l ∧ ∀ v H', Same H H' → Rp K (fun a => H a ≠ none) H' v (enc l) → Q v H'
section
variable {P : Program} {w : World} {K : PySem.W.Frag} {mg : Str → Option Value} {base : Heap}
theorem fn_Dr {x qual : Str} {st : Stmt} {f : Addr} {fd : FuncData} {N ps : List Str} {k : Nat} (F : Fun K x qual st f fd) (S : FnScope N ps (defScope st)) (r : Nat) (hps : ps.length = 2) (hN : N.length = 2 + r) (mir : List Int → Int → Option (Ls Int))
    (body : ∀ (a : Addr) (ns : List Int) (cdv : Value) (A : Around) (outer : List Env) (s : Shared) (H : Hp) (E : XK), Room k (A.deeper (envOfC qual (defScope st) s.heap.objs.size f cdv)) → SqL K H a (ns.map V.int) →
      BJ (cxOf CX0 P w K mg base N qual (defScope st) f cdv A outer s H E).nox W0 H (.k (.ref a) :: .v (fun g : Int => enc g) :: List.replicate r .u) (defBody st) (fun g => mir ns g) (fun _ => NdR (cxOf CX0 P w K mg base N qual (defScope st) f cdv A outer s H E).nox W0 H (Ls Int))) : FnOk P w K mg base CX0 (k + 1) f fd ps (spDr K mir) := by
  refine F.ok S (fun vs H Q E h => by rw [h.1, hps]) (fun cdv A outer s H vs Q E hr h => ?_)
  obtain ⟨hv, a, ns, many, l, rfl, hS, hmir, q⟩ := h
  refine ⟨_, pssW _, body a ns cdv A outer s H E hr hS many () l () (by show (mir ns many).map _ = _; rw [hmir]; rfl) _ H ?_ trivial _ ?_⟩
  · refine ⟨.refl _ _, ?_, fun i kk o h1 h2 => ?_, fun i j d e a' h1 => ?_⟩
    · unfold L2.start
      simp [hN]
    · match i with
      | 0 =>
        simp at h1
        subst h1
        unfold L2.start at h2
        simp at h2
        exact h2.symm
      | 1 =>
        simp at h1
        subst h1
        unfold L2.start at h2
        simp at h2
        exact ⟨.int many, h2.symm, .int _⟩
      | i + 2 =>
        simp only [List.getElem?_cons_succ, List.getElem?_replicate] at h1
        split at h1
        · cases h1; trivial
        · cases h1
    · match i with
      | 0 => simp at h1
      | 1 => simp at h1
      | i + 2 =>
        simp only [List.getElem?_cons_succ, List.getElem?_replicate] at h1
        split at h1 <;> cases h1
  · intro v H' g1 _ p
    exact q v H' (fun a o e => g1.kp a o e fun z => z.elim) p
end
section
variable {S : Type} {m : Type → Type} [Monad m] [MR m S] {γ α β δ : Type} [Py α] [Py β] [Py δ]
variable {X : Cx} {W : Wd S} {H0 : Hp} {ss : List (SK γ)} {a b c : Expr} {pos : Pos}
/-- x, y, z = a, b, c: plain local names -/
theorem S_par3 {x y z : Str} {px py pz pt : Pos} {kt k2 : Nat} {pt2 : Pos} (i j l : Nat) [Imm α] [Imm β] [Imm δ] {fa : γ → m α} {fb : γ → m β} {fc : γ → m δ} (n0 : NS a) (n1 : NS b) (n2 : NS c) (ha : EV X W (Rr X.K W.Av H0 ss) a fa) (hb : EV X W (Rr X.K W.Av H0 ss) b fb) (hcc : EV X W (Rr X.K W.Av H0 ss) c fc)
    (hc : X.calm = true) (hN : X.N.Nodup) (hi : X.N[i]? = some x) (hj : X.N[j]? = some y) (hl : X.N[l]? = some z) (hij : i ≠ j) (hil : i ≠ l) (hjl : j ≠ l)
    (hx : X.env.scope.names.lookup x = some .local) (hy : X.env.scope.names.lookup y = some .local) (hz : X.env.scope.names.lookup z = some .local)
    (hw : swappedStores [.Tuple [.Name x px, .Name y py, .Name z pz] kt pt] (.Tuple [a, b, c] k2 pt2) X.env = pure (some [x, y, z]))
    (hs : swapsWithSole [.Tuple [.Name x px, .Name y py, .Name z pz] kt pt] (.Tuple [a, b, c] k2 pt2) pos.line X.env = pure false) :
    SN X W H0 ss (.Assign [.Tuple [.Name x px, .Name y py, .Name z pz] kt pt] (.Tuple [a, b, c] k2 pt2) pos) (setK [(i, fun g' : γ × T3 α β δ => enc g'.2.a), (j, fun g' => enc g'.2.b), (l, fun g' => enc g'.2.c)] (ss.map (SK.cm Prod.fst))) (fun g => fa g >>= fun x => fb g >>= fun y => fc g >>= fun z => pure (T3.mk x y z)) := fun g s t s' rn σ H hR hW D nd => by
  obtain ⟨z0, s1, e0, rn⟩ := run_bind_some rn
  obtain ⟨z1, s2, e1, rn⟩ := run_bind_some rn
  obtain ⟨z2, s3, e2, rn⟩ := run_bind_some rn
  obtain ⟨rfl, rfl⟩ := run_pure_some rn
  refine wS.of (ps_par3 hc hN hi hj hl hij hil hjl hx hy hz (pa_cons (peW a) (pa_cons (peW b) (pa_cons (peW c) pa_nil (n2 _ _)) (n1 _ _)) (n0 _ _)) hw hs) ?_
  refine EV.two Rr.stb ha hb e0 e1 hR hW fun v u H1 g1 w1 p1 p2 => hcc g s2 z2 _ e2 σ H1 (hR.st g1) w1 _ fun r H2 g2 w2 p3 => ⟨v, u, r, rfl, ?_⟩
  have g3 := g1.trans g2
  have r1 := ((hR.st g3).cm (Prod.fst : γ × T3 α β δ → γ) (g' := (g, ⟨z0, z1, z2⟩)) rfl)
  obtain ⟨r2, o2⟩ := Rr.setK (ups := [(i, fun g' : γ × T3 α β δ => enc g'.2.a), (j, fun g' => enc g'.2.b), (l, fun g' => enc g'.2.c)]) (vs := [v, u, r]) (.cons ((p1.mono g2).any (Imm.imm z0)) (.cons ((p2.mono g2).any (Imm.imm z1)) (.cons (p3.any (Imm.imm z2)) .nil))) r1
  exact nd _ H2 ⟨(Tr.of_gr g3).g, fun a z => .inl (Own.cm (o2 a z))⟩ w2 r2
end
end TC

namespace TC
open PySem PySem.Spec PyProof.Rows L2
open Py (enc)
theorem ints_inv {K : PySem.W.Frag} {A : Addr → Prop} {H : Hp} : ∀ {vs : List V} {ns : List Int}, RpAll K A H vs (ns.map enc) → vs = ns.map V.int
  | [], [], _ => rfl
  | [], _ :: _, h => nomatch h
  | _ :: _, [], h => nomatch h
  | v :: vs, n :: ns, .cons p t => by
    have e : v = .int n := p.int_inv
    rw [e, ints_inv t]; rfl
theorem valV_at {d : Addr} {n : Int} : valV [(kDraws, V.ref d), (kAt, V.int n)] kAt = some (.int n) := by
  have h1 : ¬ (kDraws = kAt) := by decide +kernel
  rw [valV_neg h1, valV_pos rfl]
theorem valV_draws {d : Addr} {n : Int} : valV [(kDraws, V.ref d), (kAt, V.int n)] kDraws = some (.ref d) := valV_pos rfl
theorem putK_at {d : Addr} {n k : Int} : putK [(kDraws, V.ref d), (kAt, V.int n)] kAt (.int k) = [(kDraws, V.ref d), (kAt, V.int k)] := by
  have h1 : ¬ (kDraws = kAt) := by decide +kernel
  simp [putK, h1]
theorem merge_w {d : Addr} {n : Int} : mergeK [] [(kDraws, V.ref d), (kAt, V.int n)] = [(kDraws, V.ref d), (kAt, V.int n)] := by
  have h1 : ¬ (kDraws = kAt) := by decide +kernel
  simp [mergeK, putK, h1]
theorem same_new {H : Hp} {p : Addr} {o : HO} (n : H p = none) : Same H (upd H p o) := fun b u e => by rw [upd_ne (ne_of_none e n)]; exact e
def spLaw (K : PySem.W.Frag) : Sp := fun vs H Q _ => ∃ (a : Addr) (ns : List Int), vs = [.ref a] ∧ SqL K H a (ns.map V.int) ∧ ns.length ≤ 63 ∧ ∀ H', Q (.bl true) H'
end TC

namespace TC
open PySem PySem.Spec PyProof.Rows L2
section
variable {m : Type → Type} {S : Type} [Monad m] [MR m S] {α β δ ρ : Type}
def wp (p : m α) (s : S) (Q : α → S → Prop) : Prop := ∃ a s', MR.run p s = some (a, s') ∧ Q a s'
theorem wp_pure {a : α} {s : S} {Q : α → S → Prop} (h : Q a s) : wp (pure a : m α) s Q := ⟨a, s, MR.run_pure a s, h⟩
theorem wp_bind {p : m α} {f : α → m β} {s : S} {Q : β → S → Prop} (h : wp p s fun a s' => wp (f a) s' Q) : wp (p >>= f) s Q := by
  obtain ⟨a, s', h1, b, s2, h2, q⟩ := h
  exact ⟨b, s2, by rw [MR.run_bind, h1]; exact h2, q⟩
theorem wp_lift {o : Option α} {a : α} {s : S} {Q : α → S → Prop} (h : o = some a) (q : Q a s) : wp (MR.lift o : m α) s Q := ⟨a, s, by rw [MR.run_lift, h]; rfl, q⟩
theorem wp_ite {c : Prop} [Decidable c] {p q : m α} {s : S} {Q : α → S → Prop} (h1 : c → wp p s Q) (h2 : ¬ c → wp q s Q) : wp (if c then p else q) s Q := by
  by_cases h : c
  · rw [if_pos h]; exact h1 h
  · rw [if_neg h]; exact h2 h
theorem wp_mono {p : m α} {s : S} {Q R : α → S → Prop} (h : wp p s Q) (k : ∀ a s', Q a s' → R a s') : wp p s R := by
  obtain ⟨a, s', h1, q⟩ := h
  exact ⟨a, s', h1, k a s' q⟩
theorem wp_seq {p : m α} {f : α → m β} {s : S} (R : α → S → Prop) {Q : β → S → Prop} (h : wp p s R) (k : ∀ a s', R a s' → wp (f a) s' Q) : wp (p >>= f) s Q := wp_bind (wp_mono h k)
/-- a loop: an invariant with the count of what is done -/
theorem wp_fold {f : δ → β → m δ} (I : Nat → δ → S → Prop) : ∀ (xs : List β) (i : Nat) (d : δ) (s : S) {Q : δ → S → Prop}, I i d s → (∀ (j : Nat) x d s, xs[j]? = some x → I (i + j) d s → wp (f d x) s (I (i + j + 1))) → (∀ d s, I (i + xs.length) d s → Q d s) → wp (foldM' f d xs) s Q
  | [], i, d, s, Q, h, _, q => wp_pure (q d s h)
  | x :: xs, i, d, s, Q, h, st, q => by
    unfold foldM'
    refine wp_bind (wp_mono (st 0 x d s rfl h) fun d' s' h' => ?_)
    refine wp_fold I xs (i + 1) d' s' h' (fun j y d2 s2 e h2 => ?_) (fun d2 s2 h2 => q d2 s2 ?_)
    · have := st (j + 1) y d2 s2 e (by rw [show i + (j + 1) = i + 1 + j by omega]; exact h2)
      rw [show i + (j + 1) + 1 = i + 1 + j + 1 by omega] at this
      exact this
    · rw [List.length_cons, show i + (xs.length + 1) = i + 1 + xs.length by omega]; exact h2
theorem wp_while {c : δ → m Bool} {b : δ → m δ} (I : δ → S → Prop) (μ : δ → Nat) {Q : δ → S → Prop} (hI : ∀ d s, I d s → wp (c d) s fun t s' => if t = true then wp (b d) s' (fun d' s2 => I d' s2 ∧ μ d' < μ d) else Q d s') :
    ∀ (n : Nat) (d : δ) (s : S), μ d < n → I d s → wp (whileM c b n d) s Q
  | 0, d, s, h, _ => absurd h (Nat.not_lt_zero _)
  | n + 1, d, s, h, i => by
    unfold whileM
    refine wp_bind (wp_mono (hI d s i) fun t s' h' => ?_)
    by_cases ht : t = true
    · rw [if_pos ht] at h' ⊢
      exact wp_bind (wp_mono h' fun d' s2 h2 => wp_while I μ hI n d' s2 (by omega) h2.1)
    · rw [if_neg ht] at h' ⊢
      exact wp_pure h'
end
theorem wp_opt {α : Type} {o : Option α} {Q : α → Unit → Prop} (h : wp o () Q) : ∃ a, o = some a ∧ Q a () := by
  obtain ⟨a, s', h1, q⟩ := h
  refine ⟨a, ?_, q⟩
  cases o with
  | none => cases h1
  | some b => cases h1; rfl
theorem wp_eq {α : Type} {o : Option α} {x : α} (h : wp o () fun r _ => r = x) : o = some x := by
  obtain ⟨r, hr, e⟩ := wp_opt h
  rw [hr, e]
theorem wp_sm {S α : Type} {p : SM S α} {s : S} {Q : α → S → Prop} (h : wp p s Q) : ∃ a s', p s = some (a, s') ∧ Q a s' := h
theorem atI_ok {α : Type} {xs : List α} {i : Int} {x : α} (h0 : 0 ≤ i) (h : xs[i.toNat]? = some x) : atI xs i = some x := by
  have hl : i.toNat < xs.length := by
    rcases Nat.lt_or_ge i.toNat xs.length with q | q
    · exact q
    · rw [List.getElem?_eq_none q] at h; cases h
  unfold atI ixN
  rw [if_pos h0, if_pos (by omega)]
  exact h
theorem wp_nxt {ds : List Int} {k n : Int} {Q : Int → Int → Prop} (hk : 0 < k) (hn : 0 ≤ n) (h : ∀ r n', 0 ≤ n' → 0 ≤ r → r < k → Q r n') : wp (nxt ds k) n Q := by
  by_cases c : (ds.length : Int) < n + 1
  · refine ⟨0, n + 1, ?_, h _ _ (by omega) (by omega) hk⟩
    show nxt ds k n = _
    unfold nxt
    rw [if_pos c]
  · have hz : ∃ x, atI ds n = some x := by
      cases q : ds[n.toNat]? with
      | some x => exact ⟨x, atI_ok hn q⟩
      | none =>
        have := List.getElem?_eq_none_iff.mp q
        omega
    obtain ⟨x, hx⟩ := hz
    refine ⟨x.fmod k, n + 1, ?_, h _ _ (by omega) (Int.fmod_nonneg_of_pos _ hk) (Int.fmod_lt_of_pos _ hk)⟩
    show nxt ds k n = _
    unfold nxt
    rw [if_neg c, hx]
    show (modM x k).map _ = _
    unfold modM
    rw [if_pos (by omega)]
    rfl
theorem p200 : 2 ^ 200 ≤ 2 ^ 9000 := Nat.pow_le_pow_right (by decide) (by decide)
theorem mulM_ok {i j : Int} (h : i.natAbs < 2 ^ 200 := by omega) (k : j.natAbs < 2 ^ 200 := by omega) : mulM i j = some (i * j) := by
  unfold mulM; rw [if_pos ⟨Nat.lt_of_lt_of_le h p200, Nat.lt_of_lt_of_le k p200⟩]
theorem modM_ok {i j : Int} (h : 0 < j := by omega) : modM i j = some (i % j) := by
  unfold modM; rw [if_pos (by omega), Int.fmod_eq_emod_of_nonneg _ (Int.le_of_lt h)]
theorem divM_ok {i j : Int} (h : 0 < j := by omega) (k : j < 1073741824 := by omega) : divM i j = some (i / j) := by
  unfold divM; rw [if_pos (by omega), Int.fdiv_eq_ediv_of_nonneg _ (Int.le_of_lt h)]
theorem rngM_ok {a b : Int} (h1 : -1000000 ≤ a := by omega) (h2 : a ≤ 1000000 := by omega) (h3 : -1000000 ≤ b := by omega) (h4 : b ≤ 1000000 := by omega) : rngM a b = some (rngL a b) := by
  unfold rngM; rw [if_pos ⟨h1, h2, h3, h4⟩]
theorem appM_ok {α : Type} {xs : Ls α} {y : α} (h : xs.l.length < 1000000 := by omega) : appM xs y = some ⟨xs.l ++ [y]⟩ := by unfold appM; rw [if_pos h]
end TC

namespace TC
open PySem PySem.Spec PyProof.Rows L2
open Py (enc)
open Deq (shp)
/-! tuple * 1, t[::-1] -/
section
variable {prog : Program} {w : World} {A : Around} {E : Value → Shared → Prop} {s : Shared}
theorem mul_one_raw (l : Addr) (its : Array Value) (n : Nat) (dd : Option Addr) (sl : Array (Option Value)) (u : Tok) :
    Meets (Builtin.«tuple.__mul__» ⟨[.ref l, .int 1 u], []⟩) (fun _ R s => s.heap.get? l = some { cls := .type "tuple", dict := dd, data := .seq its n, slots := sl } ∧ R (.ok (.ret (Value.ref l))) s) :=
  .of_wp fun prog w A R s h => by
    obtain ⟨hp, g, d, tk, os⟩ := s
    obtain ⟨hl, h⟩ := h
    have f1 := AutoSeq1.idx_int
    wp_walk using wpAny_loadPart' hl
    repeat (first
      | (refine wpAny_ite_false (by decide) ?_; wp_walk using wpAny_loadPart' hl)
      | (refine wpAny_ite_true (by simp) ?_; wp_walk using wpAny_loadPart' hl))
    exact ⟨_, rfl, h⟩
theorem cut_rev {sl : Addr} {vl vu vs : Value} {n : Nat} {Q : Int × Int × Nat → Shared → Prop} (hs : s.heap.IsSliceOf sl vl vu vs) (pl : IsPart vl none) (pu : IsPart vu none) (ps : IsPart vs (some (-1)))
    (h : Q ((n : Int) - 1, -1, n) s) : wpAny (model prog w) A (Builtin.Slice.sliceApplied (.ref sl) (pure (n : Int))) Q E s := by
  obtain ⟨os, hos, hcs, hds⟩ := id hs
  unfold Builtin.Slice.sliceApplied Builtin.Slice.sliceFields
  refine wpAny_bind (wpAny_bind (wpAny_field hos hds (x := vl) rfl (wpAny_bind (wpAny_field hos hds (x := vu) rfl (wpAny_bind (wpAny_field hos hds (x := vs) rfl (wpAny_pure ?_)))))))
  refine wpAny_bind (HT.slicePart_ ps ?_)
  show wpAny _ _ (if ((-1 : Int) == 0) = true then _ else _) _ _ s
  rw [if_neg (by decide)]
  refine wpAny_bind (HT.slicePart_ pl (wpAny_bind (HT.slicePart_ pu (wpAny_bind (wpAny_pure ?_)))))
  have e : Builtin.Slice.sliceAdjust none none (-1) (n : Int) = ((n : Int) - 1, -1) := rfl
  have e2 : Builtin.Slice.slicePlaces ((n : Int) - 1) (-1) (-1) = n := by
    unfold Builtin.Slice.slicePlaces
    have h1 : ¬ ((-1 : Int) > 0) := by omega
    simp only [h1, if_false, Int.neg_neg, Int.ediv_one]
    split <;> omega
  show wpAny _ _ (match Builtin.Slice.sliceAdjust none none (-1) (n : Int) with | (lo, hi) => pure (lo, (-1 : Int), Builtin.Slice.slicePlaces lo hi (-1))) _ _ s
  rw [e]
  show wpAny _ _ (pure ((n : Int) - 1, (-1 : Int), Builtin.Slice.slicePlaces ((n : Int) - 1) (-1) (-1))) _ _ s
  rw [e2]
  exact wpAny_pure h
theorem filt_congr {α β : Type} {f g : α → Option β} : ∀ {l : List α}, (∀ x ∈ l, f x = g x) → l.filterMap f = l.filterMap g
  | [], _ => rfl
  | x :: xs, h => by
    rw [List.filterMap_cons, List.filterMap_cons, h x List.mem_cons_self, filt_congr fun y hy => h y (List.mem_cons_of_mem _ hy)]
theorem pick_rev (xs : Array Value) : ((List.range xs.size).filterMap fun (m : Nat) => xs[(((xs.size : Nat) : Int) - 1 + (m : Int) * (-1)).toNat]?).toArray = xs.toList.reverse.toArray := by
  congr 1
  have h1 : (List.range xs.size).filterMap (fun (m : Nat) => xs[(((xs.size : Nat) : Int) - 1 + (m : Int) * (-1)).toNat]?) = (List.range xs.size).filterMap (fun m => xs.toList.reverse[m]?) := by
    refine filt_congr fun m hm => ?_
    have hm := List.mem_range.mp hm
    rw [List.getElem?_reverse (by simpa using hm), Array.getElem?_toList]
    congr 1
    simp only [Array.length_toList]
    omega
  rw [h1]
  have key : ∀ ys : List Value, (List.range ys.length).filterMap (fun m => ys[m]?) = ys := by
    intro ys
    induction ys with
    | nil => rfl
    | cons y ys ih =>
      rw [List.length_cons, List.range_succ_eq_map, List.filterMap_cons]
      simp only [List.getElem?_cons_zero, List.filterMap_map]
      congr 1
  have := key xs.toList.reverse
  rw [List.length_reverse, Array.length_toList] at this
  exact this
theorem item_rev {t sl : Addr} {items : Array Value} {vl vu vs : Value} {Q : Value → Shared → Prop} (ht : IsTup s.heap t items) (hs : s.heap.IsSliceOf sl vl vu vs) (pl : IsPart vl none) (pu : IsPart vu none) (ps : IsPart vs (some (-1)))
    (h : Q (.ref s.heap.objs.size) { s with heap := s.heap.push { cls := .type "tuple", data := .seq items.toList.reverse.toArray } })
    (hsz : items.size ≤ sizeLine) : wpAny (model prog w) A (getItem (.ref t) (.ref sl)) Q E s := by
  have htake : sizeOk (.seq items.toList.reverse.toArray) := by
    show items.toList.reverse.toArray.size ≤ sizeLine
    simpa using hsz
  obtain ⟨os, hos, hcs, hds⟩ := id hs
  have hTs : s.TypeIs (.ref sl) "slice" := ⟨os, hos, hcs⟩
  unfold getItem
  try with_reducible refine wpAny_holding ?_
  first | refine wpAny_bind (wpAny_pure ?_) | skip
  refine wpAny_bind (wpAny_sequenceKey ht.typeIs (by decide) ?_)
  refine wpAny_bind (wpAny_callSpecial?_slot (name := Str.ofString "__getitem__") ht.typeIs PyProof.Rows.slot_tuple_getitem
    (wpAny_call_entry PyProof.Rows.slot_tuple_getitem ht.typeIs entry_tuple_getitem ?_ (args_tuple_getitem _ _)))
  show wpAny _ _ (Builtin.Tuple.tupleItemsOf (.ref t) >>= _) _ _ s
  refine wpAny_bind (tupleItemsOf_ ht ?_)
  refine wpAny_bind (wpAny_typeOf hTs ?_)
  rw [if_pos (by decide)]
  refine wpAny_bind (cut_rev hs pl pu ps ?_)
  have hno : ¬ (((((items.size : Nat) : Int) - 1) == 0 && (-1 : Int) == 1 && items.size == items.size) = true) := by
    rw [show ((-1 : Int) == 1) = false by decide, Bool.and_false, Bool.false_and]
    exact Bool.false_ne_true
  show wpAny _ _ (if ((((items.size : Nat) : Int) - 1) == 0 && (-1 : Int) == 1 && items.size == items.size) = true then _ else _) _ _ s
  rw [if_neg hno, pick_rev]
  first
    | exact wpAny_bind (m := Builtin.Tuple.tupleExact _) (wpAny_newObj_type (wpAny_pure ⟨_, rfl, wpAny_pure h⟩) htake)
    | exact wpAny_bind (m := Builtin.Tuple.tupleExact _) (wpAny_newObj_type (wpAny_bind (wpAny_pure (wpAny_pure ⟨_, rfl, wpAny_pure h⟩))) htake)
    | exact wpAny_bind (wpAny_bind (m := Builtin.Tuple.tupleExact _) (wpAny_newObj_type (wpAny_pure (wpAny_pure ⟨_, rfl, wpAny_pure h⟩)) htake))
    | exact wpAny_bind (wpAny_bind (m := Builtin.Tuple.tupleExact _) (wpAny_newObj_type (wpAny_pure ⟨_, rfl, wpAny_pure h⟩) htake))
end
section
variable {X : Cx}
def tRevT (K : PySem.W.Frag) (te : TE) : TE := fun σ H Q => te σ H fun x H1 => ∃ a xs, x = .ref a ∧ SqT K H1 a xs ∧ ∀ p, H1 p = none → Q (.ref p) (upd H1 p (.tup xs.reverse))
theorem pe_revT {e : Expr} {te : TE} {k : Nat} {p1 p2 p3 pos : Pos} (he : PE X e te) : PE X (.Subscript e (.Slice none none (some (.UnaryOp .USub (.Constant (.int 1) k p1) p2)) p3) pos) (tRevT X.K te) := by
  refine ⟨fun pins s σ H Q I h => ?_⟩
  refine Subscript_ (thn (he.run pins s σ H _ I h) fun v s1 ⟨x, H1, I1, r1, q1⟩ => ?_)
  obtain ⟨a, xs, ex, hx, q⟩ := q1
  subst ex
  cases r1
  have hst : PO X (some (.UnaryOp .USub (.Constant (.int 1) k p1) p2)) (tPart (tUn (rU fun i => .int (-i)) (tC (.int 1)))) := po_some (pe_un un_neg pe_int)
  refine wpAny_Slice (thn (po_none.run pins s1 σ H1 (fun o H2 => o = none ∧ H2 = H1) I1 ⟨rfl, rfl⟩) fun vl s2 ⟨l, H2, I2, pl, el, e2⟩ => ?_)
  subst el e2
  refine thn (po_none.run pins s2 σ H2 (fun o H3 => o = none ∧ H3 = H2) I2 ⟨rfl, rfl⟩) fun vu s3 ⟨u, H3, I3, pu, eu, e3⟩ => ?_
  subst eu e3
  refine thn (hst.run pins s3 σ H3 (fun o H4 => o = some (-1) ∧ H4 = H3) I3 ⟨1, rfl, -1, rfl, rfl, rfl⟩) fun vs s4 ⟨o, H4, I4, ps, eo, e4⟩ => ?_
  subst eo e4
  have I5 : Inv X pins σ H4 { s4 with heap := s4.heap.push { cls := .type "slice", data := .fields #[vl, vu, vs] } } := I4.kept (t' := s4.toks) fun b ob q => Heap.get?_push_of_some _ q
  obtain ⟨its, r, ht, hz⟩ := I5.tuple hx
  have hlen := r.length
  show wpAny (model X.prog X.w) X.A (subscriptTail e (.Slice none none (some (.UnaryOp .USub (.Constant (.int 1) k p1) p2)) p3) (.ref a) (.ref s4.heap.objs.size)) (EP X pins σ Q) X.xe { s4 with heap := s4.heap.push { cls := .type "slice", data := .fields #[vl, vu, vs] } }
  refine tail_any (ops := [.ref a, .ref s4.heap.objs.size]) ht.typeIs (PyProof.Rows.slot_tuple_getitem.lookup) ?_ (by with_unfolding_all rfl)
  refine item_rev ht (Heap.IsSliceOf.new _ vl vu vs) pl pu ps ?_ (by rw [List.size_toArray]; omega)
  refine ⟨.ref _, _, I5.laid (t' := s4.toks) (o := .tup xs.reverse) (fun b ob q => Heap.get?_push_of_some _ q) (Nat.le_refl _) ?_, rfl, q _ (I5.hok.fresh (Nat.le_refl _))⟩
  exact ⟨by rw [List.length_reverse]; exact hz, _, by simpa using r.reverse, IsTup.new _ _⟩
def rRep1 (K : PySem.W.Frag) : R2 := fun x y H Q => ∃ l xs, x = .ref l ∧ y = .int 1 ∧ SqT K H l xs ∧ Q (.ref l) H
theorem op_rep1 : OpR X (binaryOp .Mult) (rRep1 X.K) := by
  intro pins s σ H x y v u Q I rx ry h
  obtain ⟨l, xs, rfl, rfl, hT, q⟩ := h
  cases rx
  obtain ⟨t, rfl⟩ := ry
  obtain ⟨its, r, ⟨⟨cls, dd, data, sl⟩, ho, hc, n, hd⟩, hs⟩ := I.tuple hT
  simp only at hc hd
  subst hc hd
  refine wpAny_binaryOp_repeat_ref (T := "tuple") (U := "int") (by decide) ⟨_, ho, rfl⟩ (fun s' => typeIs_int s' 1 t) noFill_tuple_mul F.fills_int_mul F.slot_int_rmul repeat_tuple F.slot_int_index.lookup
    (call_meets F.slot_int_rmul (typeIs_int s 1 t) F.entry_int_rmul (F.args_int_rmul_2 _ _) (int_rmul_tuple 1 t l its.toArray n dd sl)
      ⟨ho, rfl, ⟨_, ho, rfl⟩, call_meets F.slot_tuple_mul ⟨_, ho, rfl⟩ F.entry_tuple_mul (F.args_tuple_mul_2 _ _) (mul_one_raw l its.toArray n dd sl t) ⟨ho, ?_⟩⟩)
  exact ⟨.ref l, H, I, rfl, q⟩
end
end TC

namespace TC
open PySem PySem.Spec PySem.W PyProof.Rows L2
open Py (enc)
open Deq (shp)
/-! ### what is ordered -/
class Od (α : Type) [Py α] [DecidableEq α] [Deq α] where
  lt : α → α → Bool
  alk : ∀ x y : α, alike (enc x) (enc y) = true
  dlt : ∀ x y : α, dataLt (enc x) (enc y) = lt x y
  nn : ∀ x : α, enc x ≠ PyData.none
  so : α → Bool
  srt : ∀ xs : List α, xs.all so = true → Sortable (xs.map enc)
open Od (lt so)
instance : Od Int where
  lt x y := decide (x < y)
  alk x y := by simp [enc, alike]
  dlt x y := dataLt_int x y
  nn x := fun h => nomatch h
  so _ := true
  srt xs _ := .others fun b => ⟨(fun h => nomatch h), (fun _ h => nomatch h)⟩
instance : Od Str where
  lt x y := decide (x.cps.toList < y.cps.toList)
  alk x y := by simp [enc, alike]
  dlt x y := dataLt_str x y
  nn x := fun h => nomatch h
  so _ := true
  srt xs _ := .others fun b => ⟨(fun h => nomatch h), (fun _ h => nomatch h)⟩
section
variable {α β γ : Type} [Py α] [DecidableEq α] [Deq α] [Od α] [Py β] [DecidableEq β] [Deq β] [Od β] [Py γ] [DecidableEq γ] [Deq γ] [Od γ]
theorem Od.irr (x : α) : lt x x = false := by
  rw [← Od.dlt]
  exact (listOrd itemOrd).irrefl _
theorem Od.cmp {x y z : α} (h : lt x z = true) : lt x y = true ∨ lt y z = true := by
  simp only [← Od.dlt] at *
  exact (listOrd itemOrd).negTrans _ _ _ h
theorem Od.tr {x y z : α} (h : lt x y = true) (k : lt y z = true) : lt x z = true := by
  simp only [← Od.dlt] at *
  exact (listOrd itemOrd).trans _ _ _ h k
theorem Od.tot {x y : α} (h : lt x y = false) (k : lt y x = false) : x = y := by
  rw [← Od.dlt] at h k
  have e : keyToks (enc x) = keyToks (enc y) := (listOrd itemOrd).total _ _ h k
  by_cases q : PyData.eqv (enc x) (enc y) = true
  · rw [Deq.eqv] at q
    exact of_decide_eq_true q
  · have q : PyData.eqv (enc x) (enc y) = false := by simpa using q
    have t := (toks_eqv (enc x) (enc y) (Od.alk x y)).2 q
    have t2 := (toks_eqv (enc y) (enc x) (Od.alk y x)).2 (by rw [PySem.W.eqv_comm] at q; exact q)
    have := (toks_eqv (enc x) (enc y) (Od.alk x y)).2 q [] []
    rw [e] at t
    exfalso
    have a1 := t [.inl 0] [.inl 1]
    have a2 := t [.inl 1] [.inl 0]
    have b1 : PyProof.Rows.lexLt itemOrd (keyToks (enc y) ++ [Sum.inl 0]) (keyToks (enc y) ++ [Sum.inl 1]) = true := by
      rw [lex_pre, lex_one]; rfl
    have b2 : PyProof.Rows.lexLt itemOrd (keyToks (enc y) ++ [Sum.inl 1]) (keyToks (enc y) ++ [Sum.inl 0]) = false := by
      rw [lex_pre, lex_one]; rfl
    rw [b1] at a1
    rw [b2] at a2
    rw [← a1] at a2
    cases a2
theorem lex_cons {x y : α} {xs ys : List PyData} : PyProof.Rows.lexLt itemOrd (keyToksAll (enc x :: xs)) (keyToksAll (enc y :: ys)) = if x = y then PyProof.Rows.lexLt itemOrd (keyToksAll xs) (keyToksAll ys) else lt x y := by
  rw [dataLt_cons (Od.alk x y), Deq.eqv, Od.dlt]
  by_cases h : x = y <;> simp [h]
theorem lex_nil : PyProof.Rows.lexLt itemOrd (keyToksAll []) (keyToksAll []) = false := lex_irrefl _
instance : Od (α × β) where
  lt p q := if p.1 = q.1 then lt p.2 q.2 else lt p.1 q.1
  alk p q := by simp [enc, alike, alikeAll, Od.alk]
  dlt p q := by
    show dataLt (.tuple [enc p.1, enc p.2]) (.tuple [enc q.1, enc q.2]) = _
    rw [dataLt_tuple, lex_cons, lex_cons, lex_nil]
    by_cases h : p.2 = q.2
    · simp [h, Od.irr]
    · simp [h]
  nn x := fun h => nomatch h
  so _ := true
  srt xs _ := .tuples fun b => ⟨_, _, rfl⟩
instance : Od (T3 α β γ) where
  lt p q := if p.a = q.a then (if p.b = q.b then lt p.c q.c else lt p.b q.b) else lt p.a q.a
  alk p q := by simp [enc, alike, alikeAll, Od.alk]
  dlt p q := by
    show dataLt (.tuple [enc p.a, enc p.b, enc p.c]) (.tuple [enc q.a, enc q.b, enc q.c]) = _
    rw [dataLt_tuple, lex_cons, lex_cons, lex_cons, lex_nil]
    by_cases h : p.c = q.c
    · simp [h, Od.irr]
    · simp [h]
  nn x := fun h => nomatch h
  so _ := true
  srt xs _ := .tuples fun b => ⟨_, _, rfl⟩
def ltL : List α → List α → Bool
  | [], [] => false
  | [], _ :: _ => true
  | _ :: _, [] => false
  | x :: xs, y :: ys => if x = y then ltL xs ys else lt x y
theorem alk_all : ∀ xs ys : List α, alikeAll (xs.map enc) (ys.map enc) = true
  | [], _ => by simp [alikeAll]
  | _ :: _, [] => by simp [alikeAll]
  | x :: xs, y :: ys => by simp [alikeAll, Od.alk, alk_all xs ys]
theorem lex_ltL : ∀ xs ys : List α, PyProof.Rows.lexLt itemOrd (keyToksAll (xs.map enc)) (keyToksAll (ys.map enc)) = ltL xs ys
  | [], [] => lex_nil
  | [], y :: ys => by
    simp only [List.map_nil, List.map_cons, keyToksAll, ltL]
    rfl
  | x :: xs, [] => by
    simp only [List.map_nil, List.map_cons, keyToksAll, ltL]
    rfl
  | x :: xs, y :: ys => by
    simp only [List.map_cons, ltL]
    rw [lex_cons, lex_ltL xs ys]
instance : Od (List α) where
  lt := ltL
  alk xs ys := by simp [enc, alike, alk_all]
  dlt xs ys := by
    show dataLt (.tuple (xs.map enc)) (.tuple (ys.map enc)) = _
    rw [dataLt_tuple, lex_ltL]
  nn x := fun h => nomatch h
  so x := !x.isEmpty
  srt xs h := by
    refine .inl fun d hd => ?_
    obtain ⟨b, hb, rfl⟩ := List.mem_map.mp hd
    have := List.all_eq_true.mp h b hb
    cases b with
    | nil => cases this
    | cons x xs => exact ⟨_, _, rfl⟩
/-! the least, the greatest, in order -/
def minO : List α → Option α
  | [] => none
  | x :: xs => if (x :: xs).all shp = true then some (xs.foldl (fun a y => if lt y a = true then y else a) x) else none
def maxO : List α → Option α
  | [] => none
  | x :: xs => if (x :: xs).all shp = true then some (xs.foldl (fun a y => if lt a y = true then y else a) x) else none
theorem minD_enc : ∀ (xs : List α) (x : α), minD (enc x) (xs.map enc) = enc (xs.foldl (fun a y => if lt y a = true then y else a) x)
  | [], _ => rfl
  | y :: ys, x => by
    have h := minD_enc ys (if lt y x = true then y else x)
    unfold minD at *
    rw [List.map_cons, List.foldl_cons, List.foldl_cons, Od.dlt, ← h]
    by_cases c : lt y x = true <;> simp [c]
theorem maxD_enc : ∀ (xs : List α) (x : α), maxD (enc x) (xs.map enc) = enc (xs.foldl (fun a y => if lt a y = true then y else a) x)
  | [], _ => rfl
  | y :: ys, x => by
    have h := maxD_enc ys (if lt x y = true then y else x)
    unfold maxD at *
    rw [List.map_cons, List.foldl_cons, List.foldl_cons, Od.dlt, ← h]
    by_cases c : lt x y = true <;> simp [c]
def insO (x : α) : List α → List α
  | [] => [x]
  | y :: ys => if lt y x = true then y :: insO x ys else x :: y :: ys
def isort : List α → List α
  | [] => []
  | x :: xs => insO x (isort xs)
def sortO (xs : List α) : Option (List α) := if xs.all shp = true ∧ xs.all so = true ∧ xs.length ≤ 1000000 then some (isort xs) else none
theorem insO_perm (x : α) : ∀ ys : List α, (insO x ys).Perm (x :: ys)
  | [] => .refl _
  | y :: ys => by
    unfold insO
    split
    · exact ((insO_perm x ys).cons y).trans (.swap x y ys)
    · exact .refl _
theorem isort_perm : ∀ xs : List α, (isort xs).Perm xs
  | [] => .refl _
  | x :: xs => (insO_perm x _).trans ((isort_perm xs).cons x)
theorem insO_sorted (x : α) : ∀ {ys : List α}, ys.Pairwise (fun a b => lt b a = false) → (insO x ys).Pairwise (fun a b => lt b a = false)
  | [], _ => by simp [insO]
  | y :: ys, h => by
    have h1 : ∀ z ∈ ys, lt z y = false := fun z hz => List.rel_of_pairwise_cons h hz
    have h2 := List.Pairwise.of_cons h
    unfold insO
    by_cases c : lt y x = true
    · rw [if_pos c]
      refine List.pairwise_cons.mpr ⟨fun z hz => ?_, insO_sorted x h2⟩
      rcases List.mem_cons.mp ((insO_perm x ys).mem_iff.mp hz) with q | q
      · subst q
        cases e : lt z y with
        | false => rfl
        | true =>
          have := Od.tr e c
          rw [Od.irr] at this; cases this
      · exact h1 z q
    · rw [if_neg c]
      refine List.pairwise_cons.mpr ⟨fun z hz => ?_, h⟩
      rcases List.mem_cons.mp hz with q | q
      · subst q; simpa using c
      · cases e : lt z x with
        | false => rfl
        | true =>
          rcases Od.cmp (y := y) e with q2 | q2
          · rw [h1 z q] at q2; cases q2
          · exact absurd q2 c
theorem isort_sorted : ∀ xs : List α, (isort xs).Pairwise (fun a b => lt b a = false)
  | [] => .nil
  | x :: xs => insO_sorted x (isort_sorted xs)
end
end TC

namespace TC
open PySem PySem.Spec PySem.W PyProof.Rows L2
open Py (enc)
open Deq (shp)
open Od (lt so)
/-! ### sorted(x), x a list or a tuple -/
section
variable {prog : Program} {w : World} {A : Around} {E : Value → Shared → Prop} {s : Shared} {β : Type} {en : β → PyData} {bs : List β} {R : Value → β → Prop}
theorem sort_raw {l : Addr} {T : String} {o : Obj} {vs : List Value} {n : Nat} {Q : Value → Shared → Prop} (hT : T = "list" ∨ T = "tuple") (ho : s.heap.get? l = some o) (hc : o.cls = .type T) (hd : o.data = .seq vs.toArray n)
    (e : EachIs R vs bs) (er : EachIs (fun v b => ∃ as, Reads s.heap v (en b) as) vs bs) (hal : AllAlike (bs.map en)) (hk : Sortable (bs.map en)) (hL : bs.length ≤ sizeLine) (hu : ∀ b, b ∈ bs → A.units + 2 + (en b).depth < cLine)
    (h : ∀ (h1 h' : Heap) (p : Addr) (out : List Value) (k : Nat), (∀ b ob, s.heap.get? b = some ob → h1.get? b = some ob) → (∀ b ob, h1.get? b = some ob → h'.get? b = some ob) → h1.objs.size ≤ p → h'.get? p = some { cls := .type "list", data := .seq out.toArray k } → EachIs R out (bs.mergeSort (dataLe false en)) → Q (.ref p) { s with heap := h' }) :
    wpAny (model prog w) A (call (.builtin "sorted") [.ref l]) Q E s := by
  have hvl : vs.length = bs.length := e.length
  refine call_function_entry_kw kind_sorted plain_sorted entry_sorted (args_sorted1 _) ?_
  unfold Builtin.«sorted»
  refine wpAny_bind (m := checkCount "sorted" 1 1 _) (wpAny_pure ?_)
  refine wpAny_bind (wpAny_collect_seq l hT ho hc hd (fun h1 k1 => ?_) (by rw [List.size_toArray, hvl]; exact hL))
  refine wpAny_bind (wpAny_newList (s := { s with heap := h1 }) ?_ (by rw [List.toList_toArray, hvl]; exact hL))
  have hp : (h1.push { cls := .type "list", data := .seq vs.toArray.toList.toArray }).get? h1.objs.size = some (seqObj "list" vs.toArray 0) := Heap.get?_push_size _ rfl
  have k2 : ∀ b ob, s.heap.get? b = some ob → (h1.push { cls := .type "list", data := .seq vs.toArray.toList.toArray }).get? b = some ob := fun b ob q => Heap.get?_push_of_some _ (k1 b ob q)
  have lt1 : ∀ b ob, s.heap.get? b = some ob → b ≠ h1.objs.size := fun b ob q => Nat.ne_of_lt (Heap.lt_size (k1 b ob q))
  have er2 : EachIs (fun v b => ∃ as, Reads (sortingHeap (h1.push { cls := .type "list", data := .seq vs.toArray.toList.toArray }) h1.objs.size vs) v (en b) as) vs bs :=
    er.mono fun _ _ ⟨as, r⟩ => ⟨as, PyProof.Rows.Reads.keeps (fun b ob q => sortingHeap_old (lt1 b ob q) (k2 b ob q)) r⟩
  refine wpAny_bind (wpAny_holding (wpAny_call_entry_kw slot_list_sort ⟨_, hp, rfl⟩ entry_list_sort ?body (args_list_sort _)))
  case body =>
    refine wpAny_mono (Q := fun f s' => f = .done (.ret .none) ∧ Q (.ref h1.objs.size) s') (list_sort_vals (s := { s with heap := h1.push { cls := .type "list", data := .seq vs.toArray.toList.toArray } }) (A := A.in1.in1) (κ := dataKind (sortingHeap (h1.push { cls := .type "list", data := .seq vs.toArray.toList.toArray }) h1.objs.size vs) (bs.map en)) hp (SortsAt.data (s := { s with heap := sortingHeap (h1.push { cls := .type "list", data := .seq vs.toArray.toList.toArray }) h1.objs.size vs }) (each_map (R := fun v d => ∃ as, Reads (sortingHeap (h1.push { cls := .type "list", data := .seq vs.toArray.toList.toArray }) h1.objs.size vs) v d as) en er2) hal hk (bound_map hu)) (by rw [hvl]; exact hL) ⟨rfl, ?_⟩) (fun f s' hf => ?_) fun _ _ e => e
    · obtain ⟨ep, he'⟩ := sortedHeap_at (out := (sortVals (dataKind (sortingHeap (h1.push { cls := .type "list", data := .seq vs.toArray.toList.toArray }) h1.objs.size vs) (bs.map en)) false vs vs).toArray) hp
      refine h h1 _ _ _ ep k1 (fun b ob q => ?_) (Nat.le_refl _) he' (sortVals_data false e er2 hal)
      have kp := Heap.get?_push_of_some { cls := .type "list", data := .seq vs.toArray.toList.toArray } q
      rw [sortedHeap_old (Nat.ne_of_lt (Heap.lt_size q)) (Heap.lt_size kp)]
      exact kp
    · obtain ⟨rfl, hq⟩ := hf
      exact ⟨_, rfl, wpAny_pure ⟨_, rfl, hq⟩⟩
end
section
variable {X : Cx} {pins : List (Addr × Obj)} {σ : L2.St} {H : Hp} {s : Shared}
theorem dp_each (I : Inv X pins σ H s) : ∀ {ds : List PyData} {xs : List V} {us : List Value}, DpAll X.K H xs ds → Vals xs us → EachIs (fun v (b : V × PyData) => ∃ as, Reads s.heap v b.2 as) us (xs.zip ds)
  | [], _, _, h, r => by
    cases h
    cases r
    exact .nil
  | d :: ds, _, _, h, r => by
    cases h with
    | cons h1 h2 =>
      cases r with
      | cons r1 r2 => exact .cons (Dp.reads I d _ _ h1 r1) (dp_each I h2 r2)
theorem rel_each : ∀ {ds : List PyData} {xs : List V} {us : List Value}, xs.length = ds.length → Vals xs us → EachIs (fun v (b : V × PyData) => RelV b.1 v) us (xs.zip ds)
  | [], _, _, h, r => by
    cases List.eq_nil_of_length_eq_zero h
    cases r
    exact .nil
  | d :: ds, _, _, h, r => by
    cases r with
    | nil => cases h
    | cons r1 r2 => exact .cons r1 (rel_each (Nat.succ.inj h) r2)
theorem each_vals : ∀ {bs : List (V × PyData)} {us : List Value}, EachIs (fun v (b : V × PyData) => RelV b.1 v) us bs → Vals (bs.map (·.1)) us
  | [], _, .nil => .nil
  | _ :: _, _, .cons h t => .cons h (each_vals t)
theorem dpAll_len : ∀ {ds : List PyData} {xs : List V}, DpAll X.K H xs ds → xs.length = ds.length
  | _, _, .nil => rfl
  | _, _, .cons _ t => by simp [dpAll_len t]
theorem depth_mem : ∀ {ds : List PyData} {d : PyData}, d ∈ ds → d.depth ≤ PyData.depthAll ds
  | e :: ds, d, h => by
    simp only [PyData.depthAll]
    rcases List.mem_cons.mp h with q | q
    · subst q; omega
    · have := depth_mem q; omega
/-- a list or a tuple -/
def Sq (K : PySem.W.Frag) (H : Hp) (a : Addr) (xs : List V) : Prop := SqL K H a xs ∨ SqT K H a xs
theorem Sq.obj (I : Inv X pins σ H s) {a : Addr} {xs : List V} (h : Sq X.K H a xs) : ∃ (its : List Value) (T : String) (o : Obj) (n : Nat), Vals xs its ∧ (T = "list" ∨ T = "tuple") ∧ s.heap.get? a = some o ∧ o.cls = .type T ∧ o.data = .seq its.toArray n ∧ xs.length ≤ sizeLine := by
  rcases h with h | h
  · obtain ⟨its, r, p, hz⟩ := I.list h
    obtain ⟨o, n, e, c, _, d⟩ := p
    exact ⟨its, "list", o, n, r, .inl rfl, e, c, d, hz⟩
  · obtain ⟨its, r, p, hz⟩ := I.tuple h
    obtain ⟨o, e, c, n, d⟩ := p
    exact ⟨its, "tuple", o, n, r, .inr rfl, e, c, d, hz⟩
def sortV (xs : List V) (ds : List PyData) : List (V × PyData) := (xs.zip ds).mergeSort (dataLe false (·.2))
def rSrt (K : PySem.W.Frag) : List V → Hp → VK → Prop := fun vs H Q => ∃ (a : Addr) (xs : List V) (ds : List PyData), vs = [.ref a] ∧ Sq K H a xs ∧ DpAll K H xs ds ∧ AllAlike ds ∧ Sortable ds ∧ PyData.depthAll ds ≤ 60 ∧
  ∀ p, H p = none → Q (.ref p) (upd H p (.lst ((sortV xs ds).map (·.1))))
theorem cr_srt (hu : X.A.units + 64 < cLine) : CallR X (.builtin "sorted") (rSrt X.K) := by
  intro pins s σ H vs us Q I r h
  obtain ⟨a, xs, ds, rfl, hs, hd, hal, hk, hdp, q⟩ := h
  obtain ⟨its, T, o, n, rv, hT, ho, hc, hdt, hz⟩ := hs.obj I
  have hl := dpAll_len hd
  have e2 : (xs.zip ds).map (·.2) = ds := List.map_snd_zip (Nat.le_of_eq hl.symm)
  have hzl : (xs.zip ds).length = xs.length := by rw [List.length_zip, hl, Nat.min_self]
  rw [Vals.ref1 r]
  refine sort_raw (bs := xs.zip ds) (en := fun b => b.2) (R := fun v b => RelV b.1 v) hT ho hc hdt (rel_each hl rv) (dp_each I hd rv) (by rw [e2]; exact hal) (by rw [e2]; exact hk) (by rw [hzl]; exact hz) (fun b hb => ?_) fun h1 h' p out k k1 k2 hle hp he => ?_
  · have := depth_mem (ds := ds) (d := b.2) (by rw [← e2]; exact List.mem_map.mpr ⟨b, hb, rfl⟩)
    omega
  · have I1 : Inv X pins σ H { s with heap := h1 } := I.kept (t' := s.toks) k1
    have hlen : ((sortV xs ds).map (·.1)).length ≤ sizeLine := by
      unfold sortV
      rw [List.length_map, List.length_mergeSort, hzl]; exact hz
    exact ⟨.ref p, _, I1.laid (t' := s.toks) (o := .lst ((sortV xs ds).map (·.1))) k2 hle ⟨hlen, out, k, each_vals he, hp⟩, rfl, q p (I1.hok.fresh hle)⟩
/-- min, max -/
def rMn (K : PySem.W.Frag) (F : PyData → List PyData → PyData) : List V → Hp → VK → Prop := fun vs H Q => ∃ (a : Addr) (xs : List V) (d : PyData) (ds : List PyData), vs = [.ref a] ∧ Sq K H a xs ∧ DpAll K H xs (d :: ds) ∧ PyData.canLayAll0 (d :: ds) = true ∧ (F d ds).canLay0 = true ∧ AlikeAll (d :: ds) ∧ PyData.depthAll (d :: ds) ≤ 60 ∧
  ∀ (i : Nat) (v : V), xs[i]? = some v → (d :: ds)[i]? = some (F d ds) → Q v H
theorem dp_get : ∀ {ds : List PyData} {xs : List V} {i : Nat} {x : V}, DpAll X.K H xs ds → xs[i]? = some x → ∃ d, ds[i]? = some d ∧ Dp X.K H x d
  | _, _, 0, x, .cons h _, e => by cases e; exact ⟨_, rfl, h⟩
  | _, _, i + 1, x, .cons _ t, e => dp_get (i := i) t (by simpa using e)
theorem lay_mem : ∀ {ds : List PyData} {d : PyData}, PyData.canLayAll0 ds = true → d ∈ ds → d.canLay0 = true
  | e :: ds, d, c, h => by
    simp only [PyData.canLayAll0, Bool.and_eq_true] at c
    rcases List.mem_cons.mp h with q | q
    · subst q; exact c.1
    · exact lay_mem c.2 q
theorem mn_end (I : Inv X pins σ H s) {xs : List V} {its : List Value} {ds : List PyData} {m : PyData} (rv : Vals xs its) (hd : DpAll X.K H xs ds) (hc : PyData.canLayAll0 ds = true) (hm : m.canLay0 = true) {Q : VK} (q : ∀ (i : Nat) (v : V), xs[i]? = some v → ds[i]? = some m → Q v H)
    {i : Nat} {v : Value} {h' : Heap} {tk : Nat} {bs : List Addr} (hi : its.toArray[i]? = some v) (hr : Reads h' v m bs) (hk : ∀ b o, s.heap.get? b = some o → h'.get? b = some o) : EP X pins σ Q v { s with heap := h', toks := tk } := by
  have hi' : its[i]? = some v := by simpa using hi
  obtain ⟨hlt, _⟩ := List.getElem?_eq_some_iff.mp hi'
  obtain ⟨x, hx⟩ : ∃ x, xs[i]? = some x := ⟨_, List.getElem?_eq_getElem (by rw [rv.length]; exact hlt)⟩
  obtain ⟨u, hu, ru⟩ := rv.get hx
  have euv : u = v := Option.some.inj (hu.symm.trans hi')
  obtain ⟨d, hd1, hd2⟩ := dp_get hd hx
  obtain ⟨as, r1⟩ := Dp.reads I d _ _ hd2 ru
  rw [euv] at r1 ru
  have r2 := PyProof.Rows.Reads.keeps hk r1
  have cl := lay_mem hc (List.mem_of_getElem? hd1)
  have e1 := SeqAt.readOf_eq cl r2
  have e2 := SeqAt.readOf_eq hm hr
  have e3 : d = m := e1.symm.trans e2
  exact ⟨x, H, I.kept hk, ru, q i _ hx (by rw [hd1, e3])⟩
theorem cr_min1 (hcm : X.calm = true) (hu : X.A.units + 64 < cLine) : CallR X (.builtin "min") (rMn X.K minD) := by
  intro pins s σ H vs us Q I r h
  obtain ⟨a, xs, d, ds, rfl, hs, hd, hc, hm, hal, hdp, q⟩ := h
  rw [Vals.ref1 r]
  rcases hs with hs | hs
  · obtain ⟨its, rv, hl, _⟩ := I.list hs
    obtain ⟨as, hr⟩ := Dp.readsAll I _ _ _ hd rv
    exact min_list_data (I.ok.hd hcm) hl.isList (by simpa using hr) hal (by omega) fun i v h' tk bs hi hrm hk => mn_end I rv hd hc hm q hi hrm hk
  · obtain ⟨its, rv, hl, _⟩ := I.tuple hs
    obtain ⟨as, hr⟩ := Dp.readsAll I _ _ _ hd rv
    exact min_tuple_data (I.ok.hd hcm) (show s.heap.IsTuple a its.toArray from hl) (by simpa using hr) hal (by omega) fun i v h' tk bs hi hrm hk => mn_end I rv hd hc hm q hi hrm hk
theorem cr_max1 (hcm : X.calm = true) (hu : X.A.units + 64 < cLine) : CallR X (.builtin "max") (rMn X.K maxD) := by
  intro pins s σ H vs us Q I r h
  obtain ⟨a, xs, d, ds, rfl, hs, hd, hc, hm, hal, hdp, q⟩ := h
  rw [Vals.ref1 r]
  rcases hs with hs | hs
  · obtain ⟨its, rv, hl, _⟩ := I.list hs
    obtain ⟨as, hr⟩ := Dp.readsAll I _ _ _ hd rv
    exact max_list_data (I.ok.hd hcm) hl.isList (by simpa using hr) hal (by omega) fun i v h' tk bs hi hrm hk => mn_end I rv hd hc hm q hi hrm hk
  · obtain ⟨its, rv, hl, _⟩ := I.tuple hs
    obtain ⟨as, hr⟩ := Dp.readsAll I _ _ _ hd rv
    exact max_tuple_data (I.ok.hd hcm) (show s.heap.IsTuple a its.toArray from hl) (by simpa using hr) hal (by omega) fun i v h' tk bs hi hrm hk => mn_end I rv hd hc hm q hi hrm hk
/-- sum of a tuple of ints -/
def rSumT (K : PySem.W.Frag) : List V → Hp → VK → Prop := fun vs H Q => ∃ (a : Addr) (ns : List Int), vs = [V.ref a] ∧ SqT K H a (ns.map V.int) ∧ Q (.int ns.sum) H
theorem cr_sumT (hc : X.calm = true) : CallR X (.builtin "sum") (rSumT X.K) := by
  intro pins s σ H vs us Q I r h
  obtain ⟨a, ns, rfl, hs, q⟩ := h
  obtain ⟨its, rv, hl, _⟩ := I.tuple hs
  have hi := rv.ints
  obtain ⟨xs, e⟩ := hi.allInts.items
  have hn : numsOf (intItems xs).toList = ns := by rw [← e]; exact hi.numsOf
  rw [nums_intItems] at hn
  rw [e] at hl
  rw [Vals.ref1 r]
  refine ktm_sumG (I.ok.hd hc) (show s.heap.IsTuple a (intItems xs) from hl) fun h' tk t' hk => ?_
  rw [preSum_eq, List.take_of_length_le (by simp), hn]
  exact ⟨.int _, H, I.kept hk, ⟨_, rfl⟩, q⟩
def rIn (K : PySem.W.Frag) (neg : Bool) : R2 := fun x y H Q => ∃ d ds, Dp K H x d ∧ (Dp K H y (.tuple ds) ∨ Dp K H y (.list ds)) ∧ d.canLay0 = true ∧ PyData.canLayAll0 ds = true ∧ d.depth ≤ 60 ∧ Q (.bl (neg.xor (ds.any fun z => PyData.eqv z d))) H
theorem op_in1 (hu : X.A.units + 64 < cLine) : OpR X (compareOp .In) (rIn X.K false) := by
  intro pins s σ H x y v u Q I rx ry h
  obtain ⟨d, ds, hd, he, sd, se, hl, q⟩ := h
  obtain ⟨as, r1⟩ := Dp.reads I d x v hd rx
  rcases he with he | he
  · obtain ⟨bs, r2⟩ := Dp.reads I (.tuple ds) y u he ry
    exact SeqAt.in_tuple_reads r2 r1 se sd (by omega) ⟨.bl _, H, I, rfl, by simpa using q⟩
  · obtain ⟨bs, r2⟩ := Dp.reads I (.list ds) y u he ry
    exact SeqAt.in_list_reads r2 r1 se sd (by omega) ⟨.bl _, H, I, rfl, by simpa using q⟩
theorem op_in2 (hu : X.A.units + 64 < cLine) : OpR X (compareOp .NotIn) (rIn X.K true) := by
  intro pins s σ H x y v u Q I rx ry h
  obtain ⟨d, ds, hd, he, sd, se, hl, q⟩ := h
  obtain ⟨as, r1⟩ := Dp.reads I d x v hd rx
  rcases he with he | he
  · obtain ⟨bs, r2⟩ := Dp.reads I (.tuple ds) y u he ry
    exact SeqAt.notIn_tuple_reads r2 r1 se sd (by omega) ⟨.bl _, H, I, rfl, by simpa using q⟩
  · obtain ⟨bs, r2⟩ := Dp.reads I (.list ds) y u he ry
    exact SeqAt.notIn_list_reads r2 r1 se sd (by omega) ⟨.bl _, H, I, rfl, by simpa using q⟩
/-- index, count -/
def rIdx (K : PySem.W.Frag) (α : Type) [Py α] [DecidableEq α] [Deq α] (F : List α → α → Int) : V → List V → Hp → VK → Prop := fun x xs H Q => ∃ (a : Addr) (y : V) (ys : List V) (ks : List α) (k : α), x = .ref a ∧ xs = [y] ∧ Sq K H a ys ∧ DpAll K H ys (ks.map enc) ∧ Dp K H y (enc k) ∧ k ∈ ks ∧
  (∀ z ∈ ks, (enc z).canLay0 = true) ∧ Deq.dep α ≤ 60 ∧ Q (.int (F ks k)) H
theorem itemsEq {α : Type} [Py α] [DecidableEq α] [Deq α] {A : Around} {vs : List Value} {ks : List α} {k : α} {x : Value} {as bs : List Addr} (rs : ReadsAll s.heap vs (ks.map enc) as) (rx : Reads s.heap x (enc k) bs)
    (hl : ∀ z ∈ ks, (enc z).canLay0 = true) (hk : (enc k).canLay0 = true) (hu : A.units + Deq.dep α < cLine) : SeqAt.ItemsEq A s vs ks x k := by
  have hlen : vs.length = ks.length := by
    have := SeqAt.ReadsAll.length _ _ _ rs
    simpa using this
  refine ⟨hlen, fun j h1 h2 => ?_⟩
  have hq := readsAll_at rs j vs[j] (List.getElem?_eq_getElem h1)
  obtain ⟨cs, hr, _⟩ := hq
  have e : (ks.map enc).getD j PyData.none = enc ks[j] := by
    rw [List.getD_eq_getElem?_getD, List.getElem?_map, List.getElem?_eq_getElem h2]; rfl
  rw [e] at hr
  rw [← Deq.eqv]
  exact SeqAt.eqAt_plain _ _ A s _ _ _ _ hr rx (PyData.plain_of_canLay0 _ (hl _ (List.getElem_mem h2))) (PyData.plain_of_canLay0 _ hk) (by have := Deq.dpt k; omega)
theorem mt_idxL {α : Type} [Py α] [DecidableEq α] [Deq α] (hu : X.A.units + 64 < cLine) : MtR X "list.index" (fun x xs H Q => (∃ a ys, x = V.ref a ∧ SqL X.K H a ys) ∧ rIdx X.K α (fun ks k => (ks.idxOf k : Nat)) x xs H Q) := by
  intro pins s σ H x xs v us Q I rx rs h
  obtain ⟨⟨a', ys', e', hs'⟩, a, y, ys, ks, k, rfl, rfl, hs, hd, hy, hm, hl, hdp, q⟩ := h
  cases e'
  cases rx
  obtain ⟨u, rfl, ru⟩ := vals1 rs
  obtain ⟨its, rv, pl, hz⟩ := I.list hs'
  obtain ⟨its2, T, o, n, rv2, hT, ho, hc, hdt, hz2⟩ := hs.obj I
  have hee : its = its2 := by
    obtain ⟨o', n', e1, c1, d1, d2⟩ := pl
    rw [e1] at ho
    cases ho
    rw [d2] at hdt
    have := congrArg (fun d => match d with | Data.seq a _ => a.toList | _ => []) hdt
    simpa using this
  subst hee
  obtain ⟨as, r1⟩ := Dp.readsAll I _ _ _ hd rv2
  obtain ⟨bs, r2⟩ := Dp.reads I _ _ _ hy ru
  have hvl := dpAll_len hd
  rw [List.length_map] at hvl
  exact SeqAt.call_list_index pl.isList (itemsEq r1 r2 hl (hl k hm) (by show X.A.units + 1 + _ < _; omega)) (by omega) hm ⟨.int _, H, I.tok _, ⟨_, rfl⟩, q⟩
end
end TC

namespace TC
open PySem PySem.Spec PySem.W PyProof.Rows L2
open Py (enc)
open Deq (shp)
open Od (lt so)
theorem bls_inv {K : PySem.W.Frag} {A : Addr → Prop} {H : Hp} : ∀ {vs : List V} {ns : List Bool}, RpAll K A H vs (ns.map enc) → vs = ns.map V.bl
  | [], [], _ => rfl
  | [], _ :: _, h => nomatch h
  | _ :: _, [], h => nomatch h
  | v :: vs, n :: ns, .cons p t => by
    have e : v = .bl n := by
      cases p with
      | bl b => rfl
      | obj n h => nomatch h
    rw [e, bls_inv t]; rfl
theorem pairs_rp {K : PySem.W.Frag} {A : Addr → Prop} {H : Hp} : ∀ {bs : List (V × PyData)}, (∀ b ∈ bs, Rp K A H b.1 b.2) → RpAll K A H (bs.map (·.1)) (bs.map (·.2))
  | [], _ => .nil
  | b :: bs, h => .cons (h b List.mem_cons_self) (pairs_rp fun c hc => h c (List.mem_cons_of_mem _ hc))
theorem rp_zip {K : PySem.W.Frag} {A : Addr → Prop} {H : Hp} : ∀ {xs : List V} {ds : List PyData}, RpAll K A H xs ds → ∀ b ∈ xs.zip ds, Rp K A H b.1 b.2
  | _, _, .nil, b, h => nomatch h
  | _, _, .cons p t, b, h => by
    rcases List.mem_cons.mp h with q | q
    · subst q; exact p
    · exact rp_zip t b q
section
variable {α : Type} [Py α] [DecidableEq α] [Deq α] [Od α]
theorem sortV_snd {xs : List V} {zs : List α} (hl : xs.length = zs.length) : (sortV xs (zs.map enc)).map (·.2) = (isort zs).map enc := by
  refine List.Perm.eq_of_pairwise (le := fun a b => dataLt b a = false) ?_ ?_ ?_ ?_
  · intro a b ha hb h1 h2
    obtain ⟨c, hc, rfl⟩ := List.mem_map.mp hb
    have ha' : a ∈ zs.map enc := by
      obtain ⟨p, hp, rfl⟩ := List.mem_map.mp ha
      have := (List.mergeSort_perm (xs.zip (zs.map enc)) (dataLe false (·.2))).mem_iff.mp hp
      exact (List.of_mem_zip (show (p.1, p.2) ∈ xs.zip (zs.map enc) from this)).2
    obtain ⟨d, hd, rfl⟩ := List.mem_map.mp ha'
    rw [Od.dlt] at h1 h2
    rw [Od.tot h2 h1]
  · refine List.pairwise_map.mpr ?_
    refine (List.pairwise_mergeSort (le := dataLe false (fun b : V × PyData => b.2)) ?_ ?_ _).imp fun {a b} h => ?_
    · intro a b c h1 h2
      have h1 : (!dataLt b.2 a.2) = true := h1
      have h2 : (!dataLt c.2 b.2) = true := h2
      show (!dataLt c.2 a.2) = true
      cases e : dataLt c.2 a.2 with
      | false => rfl
      | true =>
        rcases (listOrd itemOrd).negTrans _ (keyToks b.2) _ e with q | q
        · rw [show dataLt c.2 b.2 = true from q] at h2; cases h2
        · rw [show dataLt b.2 a.2 = true from q] at h1; cases h1
    · intro a b
      show ((!dataLt b.2 a.2) || (!dataLt a.2 b.2)) = true
      cases e : dataLt b.2 a.2 with
      | false => rfl
      | true =>
        cases e2 : dataLt a.2 b.2 with
        | false => rfl
        | true =>
          have := (listOrd itemOrd).trans _ _ _ e e2
          rw [show (listOrd itemOrd).blt (keyToks b.2) (keyToks b.2) = false from (listOrd itemOrd).irrefl _] at this
          cases this
    · have h : (!dataLt b.2 a.2) = true := h
      simpa using h
  · refine List.pairwise_map.mpr ((isort_sorted zs).imp fun {a b} h => ?_)
    rw [Od.dlt]; exact h
  · refine ((List.mergeSort_perm _ _).map _).trans ?_
    rw [List.map_snd_zip (by rw [List.length_map, hl]; exact Nat.le_refl _)]
    exact (isort_perm zs).symm.map _
def sortM (xs : List α) : Option (Ls α) := (sortO xs).map Ls.mk
theorem alikes (xs : List α) : AllAlike (xs.map enc) := AllAlike.of fun b b' => Od.alk b b'
theorem alikesA (xs : List α) : AlikeAll (xs.map enc) := ⟨fun x hx y hy => alikes xs x hx y hy, fun x hx => by
  obtain ⟨b, _, rfl⟩ := List.mem_map.mp hx
  exact Od.nn b⟩
end
def repM {α : Type} (x : List α) (k : Int) : Option (List α) := if k = 1 then some x else if x.length ≠ 0 ∧ 2 ≤ k ∧ k ≤ 1000 ∧ x.length ≤ 1000 then some (List.replicate k.toNat x).flatten else none
def inM {α : Type} [Py α] [DecidableEq α] [Deq α] (x : α) (xs : List α) : Option Bool := if shp x = true ∧ xs.all shp = true then some (decide (x ∈ xs)) else none
def niM {α : Type} [Py α] [DecidableEq α] [Deq α] (x : α) (xs : List α) : Option Bool := if shp x = true ∧ xs.all shp = true then some (!decide (x ∈ xs)) else none
def indexM {α : Type} [Py α] [DecidableEq α] [Deq α] (xs : List α) (x : α) : Option Int := if shp x = true ∧ xs.all shp = true ∧ x ∈ xs then some ((xs.idxOf x : Nat) : Int) else none
theorem any_mem {α : Type} [Py α] [DecidableEq α] [Deq α] (x : α) : ∀ xs : List α, ((xs.map enc).any fun z => PyData.eqv z (enc x)) = decide (x ∈ xs)
  | [] => by simp
  | y :: ys => by
    rw [List.map_cons, List.any_cons, Deq.eqv, any_mem x ys]
    by_cases h : y = x
    · simp [h]
    · have h2 : ¬ x = y := fun e => h e.symm
      simp [h, h2]
theorem rp_rep {K : PySem.W.Frag} {A : Addr → Prop} {H : Hp} {xs : List V} {ds : List PyData} (h : RpAll K A H xs ds) : ∀ k : Nat, RpAll K A H (List.replicate k xs).flatten (List.replicate k ds).flatten
  | 0 => .nil
  | k + 1 => by
    rw [List.replicate_succ, List.replicate_succ, List.flatten_cons, List.flatten_cons]
    exact h.append (rp_rep h k)
theorem rp_rev {K : PySem.W.Frag} {A : Addr → Prop} {H : Hp} : ∀ {xs : List V} {ds : List PyData}, RpAll K A H xs ds → RpAll K A H xs.reverse ds.reverse
  | _, _, .nil => .nil
  | _, _, .cons p t => by
    rw [List.reverse_cons, List.reverse_cons]
    exact (rp_rev t).append (.cons p .nil)
section
variable {S : Type} {m : Type → Type} [Monad m] [MR m S] {γ α β : Type} [Py α] [Py β] {X : Cx} {W : Wd S} {R : γ → Sg → Hp → Prop} {e a b c d : Expr} {es rest : List Expr} {pos p p1 p2 p3 : Pos} {j : Nat}
theorem E_sumL {f : γ → m (Ls Int)} (hm : X.mg "sum" = none) (hg : Gl X "sum") (hc : X.calm = true) (sb : Stb W R) (n : NS a) (h : EV X W R a f) : EV X W R (.Call (.Name "sum" p) [a] [] pos) (fun g => f g >>= fun x => pure x.l.sum) := fun g s y s' r σ H hR hW Q q => by
  obtain ⟨z0, s1, e0, r⟩ := run_bind_some r
  obtain ⟨rfl, rfl⟩ := run_pure_some r
  refine blt_run (cr_sum hc) hg hm (by decide +kernel) (ns1 n) (by decide) (by decide) (A1_run sb n h e0 hR hW fun v H1 g1 w1 p1 => ?_)
  obtain ⟨t, xs, rfl, hn, hz, hs, hx⟩ := p1.lst_inv
  exact ⟨t, z0.l, rfl, by rw [← ints_inv hx]; exact .of hs, q _ _ g1 w1 (.int _)⟩
theorem E_sumT {f : γ → m (List Int)} (hm : X.mg "sum" = none) (hg : Gl X "sum") (hc : X.calm = true) (sb : Stb W R) (n : NS a) (h : EV X W R a f) : EV X W R (.Call (.Name "sum" p) [a] [] pos) (fun g => f g >>= fun x => pure x.sum) := fun g s y s' r σ H hR hW Q q => by
  obtain ⟨z0, s1, e0, r⟩ := run_bind_some r
  obtain ⟨rfl, rfl⟩ := run_pure_some r
  refine blt_run (cr_sumT hc) hg hm (by decide +kernel) (ns1 n) (by decide) (by decide) (A1_run sb n h e0 hR hW fun v H1 g1 w1 p1 => ?_)
  obtain ⟨t, xs, rfl, hz, hs, hx⟩ := p1.tup_inv
  exact ⟨t, z0, rfl, by rw [← ints_inv hx]; exact hs, q _ _ g1 w1 (.int _)⟩
theorem E_max2 {f k : γ → m Int} (hm : X.mg "max" = none) (hg : Gl X "max") (hc : X.calm = true) (sb : Stb W R) (n : NS a) (n' : NS b) (h : EV X W R a f) (h' : EV X W R b k) : EV X W R (.Call (.Name "max" p) [a, b] [] pos) (fun g => f g >>= fun x => k g >>= fun y => pure (if y > x then y else x)) := fun g s y s' r σ H hR hW Q q => by
  obtain ⟨z0, s1, e0, r⟩ := run_bind_some r
  obtain ⟨z1, s2, e1, r⟩ := run_bind_some r
  obtain ⟨rfl, rfl⟩ := run_pure_some r
  refine blt_run (call_max2 hc) hg hm (by decide +kernel) (ns2 n n') (by decide) (by decide) (A2_run sb n n' h h' e0 e1 hR hW fun v u H1 g1 w1 q1 q2 => ?_)
  exact ⟨z0, z1, by rw [q1.int_inv, q2.int_inv], q _ _ g1 w1 (.int _)⟩
theorem E_min2 {f k : γ → m Int} (hm : X.mg "min" = none) (hg : Gl X "min") (hc : X.calm = true) (sb : Stb W R) (n : NS a) (n' : NS b) (h : EV X W R a f) (h' : EV X W R b k) : EV X W R (.Call (.Name "min" p) [a, b] [] pos) (fun g => f g >>= fun x => k g >>= fun y => pure (if y < x then y else x)) := fun g s y s' r σ H hR hW Q q => by
  obtain ⟨z0, s1, e0, r⟩ := run_bind_some r
  obtain ⟨z1, s2, e1, r⟩ := run_bind_some r
  obtain ⟨rfl, rfl⟩ := run_pure_some r
  refine blt_run (call_min2 hc) hg hm (by decide +kernel) (ns2 n n') (by decide) (by decide) (A2_run sb n n' h h' e0 e1 hR hW fun v u H1 g1 w1 q1 q2 => ?_)
  exact ⟨z0, z1, by rw [q1.int_inv, q2.int_inv], q _ _ g1 w1 (.int _)⟩
theorem E_allL {f : γ → m (Ls Bool)} (hm : X.mg "all" = none) (hg : Gl X "all") (hc : X.calm = true) (sb : Stb W R) (n : NS a) (h : EV X W R a f) : EV X W R (.Call (.Name "all" p) [a] [] pos) (fun g => f g >>= fun x => pure (x.l.all id)) := fun g s y s' r σ H hR hW Q q => by
  obtain ⟨z0, s1, e0, r⟩ := run_bind_some r
  obtain ⟨rfl, rfl⟩ := run_pure_some r
  refine blt_run (cr_all hc) hg hm (by decide +kernel) (ns1 n) (by decide) (by decide) (A1_run sb n h e0 hR hW fun v H1 g1 w1 p1 => ?_)
  obtain ⟨t, xs, rfl, hn, hz, hs, hx⟩ := p1.lst_inv
  exact ⟨t, z0.l, rfl, by rw [← bls_inv hx]; exact .of hs, q _ _ g1 w1 (.bl _)⟩
theorem E_anyL {f : γ → m (Ls Bool)} (hm : X.mg "any" = none) (hg : Gl X "any") (hc : X.calm = true) (sb : Stb W R) (n : NS a) (h : EV X W R a f) : EV X W R (.Call (.Name "any" p) [a] [] pos) (fun g => f g >>= fun x => pure (x.l.any id)) := fun g s y s' r σ H hR hW Q q => by
  obtain ⟨z0, s1, e0, r⟩ := run_bind_some r
  obtain ⟨rfl, rfl⟩ := run_pure_some r
  refine blt_run (cr_any hc) hg hm (by decide +kernel) (ns1 n) (by decide) (by decide) (A1_run sb n h e0 hR hW fun v H1 g1 w1 p1 => ?_)
  obtain ⟨t, xs, rfl, hn, hz, hs, hx⟩ := p1.lst_inv
  exact ⟨t, z0.l, rfl, by rw [← bls_inv hx]; exact .of hs, q _ _ g1 w1 (.bl _)⟩
theorem E_revT {k : Nat} {f : γ → m (List α)} (h : EV X W R e f) : EV X W R (.Subscript e (.Slice none none (some (.UnaryOp .USub (.Constant (.int 1) k p1) p2)) p3) pos) (fun g => f g >>= fun x => pure x.reverse) := fun g s y s' r σ H hR hW Q q => by
  obtain ⟨z0, s1, e0, r⟩ := run_bind_some r
  obtain ⟨rfl, rfl⟩ := run_pure_some r
  refine wE.of (pe_revT (peW e)) (h g s z0 _ e0 σ H hR hW _ fun v H1 g1 w1 p => ?_)
  obtain ⟨t, xs, rfl, hz, hs, hx⟩ := p.tup_inv
  refine ⟨t, xs, rfl, hs, fun l hl => q _ _ (g1.trans (.new hl)) (W.new w1 hl) (.tup (by rw [List.length_reverse]; exact hz) (.of upd_same) ?_)⟩
  rw [List.map_reverse]
  exact (rp_rev hx).mono (.new hl)
theorem E_revL [Imm α] {k : Nat} {f : γ → m (Ls α)} (h : EV X W R e f) : EVf X W R (.Subscript e (.Slice none none (some (.UnaryOp .USub (.Constant (.int 1) k p1) p2)) p3) pos) (fun g => f g >>= fun x => pure (Ls.mk x.l.reverse)) := fun g s y s' r σ H hR hW Q q => by
  obtain ⟨z0, s1, e0, r⟩ := run_bind_some r
  obtain ⟨rfl, rfl⟩ := run_pure_some r
  refine wE.of (pe_revL (peW e)) (h g s z0 _ e0 σ H hR hW _ fun v H1 g1 w1 p => ?_)
  obtain ⟨t, xs, rfl, hn, hz, hs, hx⟩ := p.lst_inv
  refine ⟨t, xs, rfl, .of hs, fun l hl => q _ _ (g1.trans (.new hl)) (W.new w1 hl) (.obj (fun z => g1.ex l z hl) (.lst (by rw [List.length_reverse]; exact hz) upd_same ?_))⟩
  rw [List.map_reverse]
  exact ((rp_rev hx).mono (.new hl)).any (by rw [← List.map_reverse]; exact immDs_map _)
theorem E_repT {f : γ → m (List α)} {k : γ → m Int} (sb : Stb W R) (ha : EV X W R a f) (hb : EV X W R b k) : EV X W R (.BinOp a .Mult b pos) (fun g => f g >>= fun x => k g >>= fun y => MR.lift (repM x y)) := fun g s x s' r σ H hR hW Q q => by
  obtain ⟨z0, s1, e0, r⟩ := run_bind_some r
  obtain ⟨z1, s2, e1, r⟩ := run_bind_some r
  obtain ⟨h3, rfl⟩ := run_lift_some r
  refine wE.of (pe_op (op_rep1.or op_repT) (peW a) (peW b)) (EV.two sb ha hb e0 e1 hR hW fun v u H' g1 w1 p1 p2 => ?_)
  obtain ⟨t, xs, rfl, hz, hs, hx⟩ := p1.tup_inv
  have hlen := hx.length
  rw [List.length_map] at hlen
  unfold repM at h3
  split at h3
  · rename_i c
    cases h3
    exact .inl ⟨t, xs, rfl, by rw [p2.int_inv, c], hs, q _ _ g1 w1 p1⟩
  · split at h3
    · rename_i c
      cases h3
      refine .inr ⟨t, z1, xs, rfl, p2.int_inv, hs, fun e => c.1 (by rw [← hlen, e]; rfl), c.2.1, c.2.2.1, by rw [hlen]; exact c.2.2.2, fun l hl => q _ _ (g1.trans (.new hl)) (W.new w1 hl) (.tup ?_ (.of upd_same) ?_)⟩
      · rw [PyProof.Rows.lm_len_rep_flat, sizeLine_eq, hlen]
        have a1 : z1.toNat * z0.length ≤ 1000 * 1000 := Nat.mul_le_mul (by omega) c.2.2.2
        omega
      · rw [List.map_flatten, List.map_replicate]
        exact (rp_rep hx _).mono (.new hl)
    · cases h3
theorem E_catL [Imm α] {f k : γ → m (Ls α)} (sb : Stb W R) (ha : EV X W R a f) (hb : EV X W R b k) : EVf X W R (.BinOp a .Add b pos) (fun g => f g >>= fun x => k g >>= fun y => MR.lift (extM x y)) := fun g s x s' r σ H hR hW Q q => by
  obtain ⟨z0, s1, e0, r⟩ := run_bind_some r
  obtain ⟨z1, s2, e1, r⟩ := run_bind_some r
  obtain ⟨h3, rfl⟩ := run_lift_some r
  unfold extM at h3
  split at h3
  · rename_i c
    cases h3
    refine wE.of (pe_op op_cat (peW a) (peW b)) (EV.two sb ha hb e0 e1 hR hW fun v u H' g1 w1 p1 p2 => ?_)
    obtain ⟨t, xs, rfl, hn, hz, hs, hx⟩ := p1.lst_inv
    obtain ⟨t2, ys, rfl, hn2, hz2, hs2, hy⟩ := p2.lst_inv
    have l1 := hx.length
    have l2 := hy.length
    rw [List.length_map] at l1 l2
    have hsz : xs.length + ys.length ≤ sizeLine := by rw [l1, l2, sizeLine_eq]; omega
    refine ⟨t, t2, xs, ys, rfl, rfl, hs, hs2, hsz, fun l hl => q _ _ (g1.trans (.new hl)) (W.new w1 hl) (.obj (fun z => g1.ex l z hl) (.lst (by rw [List.length_append]; exact hsz) upd_same ?_))⟩
    show RpAll _ _ _ _ (List.map enc (z0.l ++ z1.l))
    rw [List.map_append]
    exact ((hx.append hy).mono (.new hl)).any (by rw [← List.map_append]; exact immDs_map _)
  · cases h3
variable [DecidableEq α] [Deq α]
theorem in_run (sb : Stb W R) {f : γ → m α} {k : γ → m β} {xs : β → List α} (neg : Bool) (hβ : ∀ y : β, enc y = PyData.tuple ((xs y).map enc) ∨ enc y = PyData.list ((xs y).map enc)) (ha : EV X W R a f) (hb : EV X W R b k) (hd : Deq.dep α ≤ 60) {g : γ} {s s1 s2 : S} {x : α} {y : β}
    (e0 : MR.run (f g) s = some (x, s1)) (e1 : MR.run (k g) s1 = some (y, s2)) (c1 : shp x = true) (c2 : (xs y).all shp = true) {σ : Sg} {H : Hp} (hR : R g σ H) (hW : W.WI s H) {Q : VK} (q : ∀ H', gr W.Av H H' → W.WI s2 H' → Q (.bl (neg.xor (decide (x ∈ xs y)))) H') :
    tOp (rIn X.K neg) (wE X a) (wE X b) σ H Q :=
  EV.two sb ha hb e0 e1 hR hW fun v u H' g1 w1 p1 p2 => by
    have hl : PyData.canLayAll0 ((xs y).map enc) = true := canLayAll_map _ c2
    refine ⟨enc x, (xs y).map enc, p1.dp (Deq.lay x c1), ?_, Deq.lay x c1, hl, Nat.le_trans (Deq.dpt x) hd, by rw [any_mem]; exact q H' g1 w1⟩
    rcases hβ y with h | h
    · rw [h] at p2
      exact .inl (p2.dp (by simpa [PyData.canLay0] using hl))
    · rw [h] at p2
      exact .inr (p2.dp (by simpa [PyData.canLay0] using hl))
theorem C_inT (hu : X.A.units + 64 < cLine) (sb : Stb W R) {f : γ → m α} {k : γ → m (List α)} (ha : EV X W R a f) (hb : EV X W R b k) (hd : Deq.dep α ≤ 60 := by decide) : CV X W R .In a b (fun g => f g >>= fun x => k g >>= fun y => MR.lift (inM x y)) := ⟨_, op_in1 hu, fun g s x s' r σ H hR hW Q q => by
  obtain ⟨z0, s1, e0, r⟩ := run_bind_some r
  obtain ⟨z1, s2, e1, r⟩ := run_bind_some r
  obtain ⟨h3, rfl⟩ := run_lift_some r
  unfold inM at h3
  split at h3
  · rename_i c
    cases h3
    exact in_run sb (xs := fun y => y) false (fun y => .inl rfl) ha hb hd e0 e1 c.1 c.2 hR hW fun H' g1 w1 => by rw [Bool.false_xor]; exact q H' g1 w1
  · cases h3⟩
theorem C_niT (hu : X.A.units + 64 < cLine) (sb : Stb W R) {f : γ → m α} {k : γ → m (List α)} (ha : EV X W R a f) (hb : EV X W R b k) (hd : Deq.dep α ≤ 60 := by decide) : CV X W R .NotIn a b (fun g => f g >>= fun x => k g >>= fun y => MR.lift (niM x y)) := ⟨_, op_in2 hu, fun g s x s' r σ H hR hW Q q => by
  obtain ⟨z0, s1, e0, r⟩ := run_bind_some r
  obtain ⟨z1, s2, e1, r⟩ := run_bind_some r
  obtain ⟨h3, rfl⟩ := run_lift_some r
  unfold niM at h3
  split at h3
  · rename_i c
    cases h3
    exact in_run sb (xs := fun y => y) true (fun y => .inl rfl) ha hb hd e0 e1 c.1 c.2 hR hW fun H' g1 w1 => by rw [Bool.true_xor]; exact q H' g1 w1
  · cases h3⟩
theorem C_inL (hu : X.A.units + 64 < cLine) (sb : Stb W R) {f : γ → m α} {k : γ → m (Ls α)} (ha : EV X W R a f) (hb : EV X W R b k) (hd : Deq.dep α ≤ 60 := by decide) : CV X W R .In a b (fun g => f g >>= fun x => k g >>= fun y => MR.lift (inM x y.l)) := ⟨_, op_in1 hu, fun g s x s' r σ H hR hW Q q => by
  obtain ⟨z0, s1, e0, r⟩ := run_bind_some r
  obtain ⟨z1, s2, e1, r⟩ := run_bind_some r
  obtain ⟨h3, rfl⟩ := run_lift_some r
  unfold inM at h3
  split at h3
  · rename_i c
    cases h3
    exact in_run sb (xs := fun y => y.l) false (fun y => .inr rfl) ha hb hd e0 e1 c.1 c.2 hR hW fun H' g1 w1 => by rw [Bool.false_xor]; exact q H' g1 w1
  · cases h3⟩
theorem C_niL (hu : X.A.units + 64 < cLine) (sb : Stb W R) {f : γ → m α} {k : γ → m (Ls α)} (ha : EV X W R a f) (hb : EV X W R b k) (hd : Deq.dep α ≤ 60 := by decide) : CV X W R .NotIn a b (fun g => f g >>= fun x => k g >>= fun y => MR.lift (niM x y.l)) := ⟨_, op_in2 hu, fun g s x s' r σ H hR hW Q q => by
  obtain ⟨z0, s1, e0, r⟩ := run_bind_some r
  obtain ⟨z1, s2, e1, r⟩ := run_bind_some r
  obtain ⟨h3, rfl⟩ := run_lift_some r
  unfold niM at h3
  split at h3
  · rename_i c
    cases h3
    exact in_run sb (xs := fun y => y.l) true (fun y => .inr rfl) ha hb hd e0 e1 c.1 c.2 hR hW fun H' g1 w1 => by rw [Bool.true_xor]; exact q H' g1 w1
  · cases h3⟩
variable [Od α]
theorem rp_sort {K : PySem.W.Frag} {A : Addr → Prop} {H : Hp} {xs : List V} {zs : List α} (hx : RpAll K A H xs (zs.map enc)) : RpAll K A H ((sortV xs (zs.map enc)).map (·.1)) ((isort zs).map enc) := by
  have hl := hx.length
  rw [List.length_map] at hl
  rw [← sortV_snd hl]
  exact pairs_rp fun b hb => rp_zip hx b ((List.mergeSort_perm _ _).mem_iff.mp hb)
theorem E_sortL [Imm α] {f : γ → m (Ls α)} (hm : X.mg "sorted" = none) (hg : Gl X "sorted") (hc : X.calm = true) (hu : X.A.units + 64 < cLine) (sb : Stb W R) (n : NS a) (h : EV X W R a f) (hd : Deq.dep α ≤ 60 := by decide) : EVf X W R (.Call (.Name "sorted" p) [a] [] pos) (fun g => f g >>= fun x => MR.lift (sortM x.l)) := fun g s y s' r σ H hR hW Q q => by
  obtain ⟨z0, s1, e0, r⟩ := run_bind_some r
  obtain ⟨h3, rfl⟩ := run_lift_some r
  unfold sortM sortO at h3
  split at h3
  · rename_i cc
    cases h3
    refine blt_run (cr_srt hu) hg hm (by decide +kernel) (ns1 n) (by decide) (by decide) (A1_run sb n h e0 hR hW fun v H1 g1 w1 p1 => ?_)
    obtain ⟨t, xs, rfl, hn, hz, hs, hx⟩ := p1.lst_inv
    refine ⟨t, xs, z0.l.map enc, rfl, .inl (.of hs), RpAll.dp (canLayAll_map _ cc.1) hx, alikes _, Od.srt _ cc.2.1, Nat.le_trans (depthAll_map _) hd, fun l hl => q _ _ (g1.trans (.new hl)) (W.new w1 hl) (.obj (fun z => g1.ex l z hl) (.lst ?_ upd_same ?_))⟩
    · unfold sortV
      rw [List.length_map, List.length_mergeSort, List.length_zip]
      omega
    · exact ((rp_sort hx).mono (.new hl)).any (immDs_map _)
  · cases h3
theorem E_sortT [Imm α] {f : γ → m (List α)} (hm : X.mg "sorted" = none) (hg : Gl X "sorted") (hc : X.calm = true) (hu : X.A.units + 64 < cLine) (sb : Stb W R) (n : NS a) (h : EV X W R a f) (hd : Deq.dep α ≤ 60 := by decide) : EVf X W R (.Call (.Name "sorted" p) [a] [] pos) (fun g => f g >>= fun x => MR.lift (sortM x)) := fun g s y s' r σ H hR hW Q q => by
  obtain ⟨z0, s1, e0, r⟩ := run_bind_some r
  obtain ⟨h3, rfl⟩ := run_lift_some r
  unfold sortM sortO at h3
  split at h3
  · rename_i cc
    cases h3
    refine blt_run (cr_srt hu) hg hm (by decide +kernel) (ns1 n) (by decide) (by decide) (A1_run sb n h e0 hR hW fun v H1 g1 w1 p1 => ?_)
    obtain ⟨t, xs, rfl, hz, hs, hx⟩ := p1.tup_inv
    refine ⟨t, xs, z0.map enc, rfl, .inr hs, RpAll.dp (canLayAll_map _ cc.1) hx, alikes _, Od.srt _ cc.2.1, Nat.le_trans (depthAll_map _) hd, fun l hl => q _ _ (g1.trans (.new hl)) (W.new w1 hl) (.obj (fun z => g1.ex l z hl) (.lst ?_ upd_same ?_))⟩
    · unfold sortV
      rw [List.length_map, List.length_mergeSort, List.length_zip]
      omega
    · exact ((rp_sort hx).mono (.new hl)).any (immDs_map _)
  · cases h3
theorem mn_run {K : PySem.W.Frag} {A : Addr → Prop} {H : Hp} {xs : List V} {zs : List α} {y : α} (hx : RpAll K A H xs (zs.map enc)) (i : Nat) (v : V) (h1 : xs[i]? = some v) (h2 : (zs.map enc)[i]? = some (enc y)) : Rp K A H v (enc y) := by
  obtain ⟨u, e1, e2⟩ := hx.get h2
  rw [h1] at e1
  cases e1
  exact e2
theorem foldl_mem {α : Type} (c : α → α → Bool) : ∀ (xs : List α) (x : α), xs.foldl (fun a y => if c a y = true then y else a) x ∈ x :: xs
  | [], x => List.mem_cons_self
  | y :: ys, x => by
    rw [List.foldl_cons]
    have := foldl_mem c ys (if c x y = true then y else x)
    by_cases h : c x y = true
    · rw [if_pos h] at this ⊢
      exact List.mem_cons_of_mem _ this
    · rw [if_neg h] at this ⊢
      rcases List.mem_cons.mp this with q | q
      · rw [q]; exact List.mem_cons_self
      · exact List.mem_cons_of_mem _ (List.mem_cons_of_mem _ q)
theorem minO_inv {zs : List α} {y : α} (h : minO zs = some y) : ∃ x xs, zs = x :: xs ∧ zs.all shp = true ∧ enc y = minD (enc x) (xs.map enc) ∧ y ∈ zs := by
  cases zs with
  | nil => cases h
  | cons x xs =>
    dsimp only [minO] at h
    by_cases c : (x :: xs).all shp = true
    · rw [if_pos c] at h
      cases h
      exact ⟨x, xs, rfl, c, (minD_enc xs x).symm, foldl_mem (fun a y => lt y a) xs x⟩
    · rw [if_neg c] at h
      cases h
theorem maxO_inv {zs : List α} {y : α} (h : maxO zs = some y) : ∃ x xs, zs = x :: xs ∧ zs.all shp = true ∧ enc y = maxD (enc x) (xs.map enc) ∧ y ∈ zs := by
  cases zs with
  | nil => cases h
  | cons x xs =>
    dsimp only [maxO] at h
    by_cases c : (x :: xs).all shp = true
    · rw [if_pos c] at h
      cases h
      exact ⟨x, xs, rfl, c, (maxD_enc xs x).symm, foldl_mem (fun a y => lt a y) xs x⟩
    · rw [if_neg c] at h
      cases h
theorem mn_put {F : PyData → List PyData → PyData} {A : Addr → Prop} {H : Hp} {a : Addr} {xs : List V} {x y : α} {zs : List α} (hs : Sq X.K H a xs) (hx : RpAll X.K A H xs ((x :: zs).map enc)) (c : (x :: zs).all shp = true) (e : enc y = F (enc x) (zs.map enc)) (hy : y ∈ x :: zs) (hd : Deq.dep α ≤ 60) {Q : VK} (q : ∀ v, Rp X.K A H v (enc y) → Q v H) : rMn X.K F [.ref a] H Q := by
  refine ⟨a, xs, enc x, zs.map enc, rfl, hs, RpAll.dp (canLayAll_map _ c) hx, canLayAll_map (x :: zs) c, ?_, alikesA (x :: zs), Nat.le_trans (depthAll_map (x :: zs)) hd, fun i v h1 h2 => q v ?_⟩
  · rw [← e]; exact Deq.lay y (List.all_eq_true.mp c y hy)
  · rw [← e] at h2
    exact mn_run hx i v h1 h2
theorem E_minL {f : γ → m (Ls α)} (hm : X.mg "min" = none) (hg : Gl X "min") (hc : X.calm = true) (hu : X.A.units + 64 < cLine) (sb : Stb W R) (n : NS a) (h : EV X W R a f) (hd : Deq.dep α ≤ 60 := by decide) : EV X W R (.Call (.Name "min" p) [a] [] pos) (fun g => f g >>= fun x => MR.lift (minO x.l)) := fun g s y s' r σ H hR hW Q q => by
  obtain ⟨z0, s1, e0, r⟩ := run_bind_some r
  obtain ⟨h3, rfl⟩ := run_lift_some r
  obtain ⟨x, zs, e1, c, e2, hy⟩ := minO_inv h3
  refine blt_run (cr_min1 hc hu) hg hm (by decide +kernel) (ns1 n) (by decide) (by decide) (A1_run sb n h e0 hR hW fun v H1 g1 w1 p1 => ?_)
  obtain ⟨t, xs, rfl, hn, hz, hs, hx⟩ := p1.lst_inv
  rw [e1] at hx c hy
  exact mn_put (.inl (.of hs)) hx c e2 hy hd fun v r => q _ _ g1 w1 r
theorem E_minT {f : γ → m (List α)} (hm : X.mg "min" = none) (hg : Gl X "min") (hc : X.calm = true) (hu : X.A.units + 64 < cLine) (sb : Stb W R) (n : NS a) (h : EV X W R a f) (hd : Deq.dep α ≤ 60 := by decide) : EV X W R (.Call (.Name "min" p) [a] [] pos) (fun g => f g >>= fun x => MR.lift (minO x)) := fun g s y s' r σ H hR hW Q q => by
  obtain ⟨z0, s1, e0, r⟩ := run_bind_some r
  obtain ⟨h3, rfl⟩ := run_lift_some r
  obtain ⟨x, zs, e1, c, e2, hy⟩ := minO_inv h3
  refine blt_run (cr_min1 hc hu) hg hm (by decide +kernel) (ns1 n) (by decide) (by decide) (A1_run sb n h e0 hR hW fun v H1 g1 w1 p1 => ?_)
  obtain ⟨t, xs, rfl, hz, hs, hx⟩ := p1.tup_inv
  rw [e1] at hx c hy
  exact mn_put (.inr hs) hx c e2 hy hd fun v r => q _ _ g1 w1 r
theorem E_maxL {f : γ → m (Ls α)} (hm : X.mg "max" = none) (hg : Gl X "max") (hc : X.calm = true) (hu : X.A.units + 64 < cLine) (sb : Stb W R) (n : NS a) (h : EV X W R a f) (hd : Deq.dep α ≤ 60 := by decide) : EV X W R (.Call (.Name "max" p) [a] [] pos) (fun g => f g >>= fun x => MR.lift (maxO x.l)) := fun g s y s' r σ H hR hW Q q => by
  obtain ⟨z0, s1, e0, r⟩ := run_bind_some r
  obtain ⟨h3, rfl⟩ := run_lift_some r
  obtain ⟨x, zs, e1, c, e2, hy⟩ := maxO_inv h3
  refine blt_run (cr_max1 hc hu) hg hm (by decide +kernel) (ns1 n) (by decide) (by decide) (A1_run sb n h e0 hR hW fun v H1 g1 w1 p1 => ?_)
  obtain ⟨t, xs, rfl, hn, hz, hs, hx⟩ := p1.lst_inv
  rw [e1] at hx c hy
  exact mn_put (.inl (.of hs)) hx c e2 hy hd fun v r => q _ _ g1 w1 r
theorem E_maxT {f : γ → m (List α)} (hm : X.mg "max" = none) (hg : Gl X "max") (hc : X.calm = true) (hu : X.A.units + 64 < cLine) (sb : Stb W R) (n : NS a) (h : EV X W R a f) (hd : Deq.dep α ≤ 60 := by decide) : EV X W R (.Call (.Name "max" p) [a] [] pos) (fun g => f g >>= fun x => MR.lift (maxO x)) := fun g s y s' r σ H hR hW Q q => by
  obtain ⟨z0, s1, e0, r⟩ := run_bind_some r
  obtain ⟨h3, rfl⟩ := run_lift_some r
  obtain ⟨x, zs, e1, c, e2, hy⟩ := maxO_inv h3
  refine blt_run (cr_max1 hc hu) hg hm (by decide +kernel) (ns1 n) (by decide) (by decide) (A1_run sb n h e0 hR hW fun v H1 g1 w1 p1 => ?_)
  obtain ⟨t, xs, rfl, hz, hs, hx⟩ := p1.tup_inv
  rw [e1] at hx c hy
  exact mn_put (.inr hs) hx c e2 hy hd fun v r => q _ _ g1 w1 r
end
section
variable {S : Type} {m : Type → Type} [Monad m] [MR m S] {γ τ : Type} {X : Cx} {W : Wd S} {H0 : Hp} {body : List Stmt}
theorem B_as {ss : List (SK γ)} (ss' : List (SK γ)) (h : ss = ss') {f : γ → m τ} {N : γ → Nd S τ} (b : BJ X W H0 ss' body f N) : BJ X W H0 ss body f N := by subst h; exact b
end
end TC

namespace TC
open PySem PySem.Spec PyProof.Rows L2
open Py (enc)
/-! ### comprehensions as one judgement; two clauses -/
section
variable {S : Type} {m : Type → Type} [Monad m] [MR m S] {γ α β δ : Type} [Py α] [Py β]
def CL (X : Cx) (W : Wd S) (R : γ → Sg → Hp → Prop) (e : Expr) (f : γ → m (Ls α)) : Prop := ∃ t : TE, PE X e t ∧
  (∀ (i : Nat) (y : Str) (py spos : Pos), X.N[i]? = some y → X.env.scope.names.lookup y = some .local → swapsWith e (some (.Name y py)) spos.line X.env = pure true → PS X (.Assign [.Name y py] e spos) (tAsg t (gName i))) ∧
  ∀ g s x s', MR.run (f g) s = some (x, s') → ∀ σ H, R g σ H → W.WI s H → ∀ Q : VK, (∀ v H', gr W.Av H H' → W.WI s' H' → Rp X.K (fun a => H a ≠ none) H' v (enc x) → Q v H') → t σ H Q
variable {X : Cx} {W : Wd S} {H0 : Hp} {R : γ → Sg → Hp → Prop} {ss : List (SK γ)} {e a b c tg iter elt tg1 iter1 c1 : Expr} {pos : Pos} {scope : Scope}
theorem E_cl {f : γ → m (Ls α)} (h : CL X W R e f) : EVf X W R e f := fun g s x s' rn σ H hR hW Q q => by
  obtain ⟨t, p, _, k⟩ := h
  exact wE.of p (k g s x s' rn σ H hR hW Q q)
theorem S_cl (i : Nat) {x : Str} {px spos : Pos} {f : γ → m (Ls α)} [Imm α] (h : CL X W (Rr X.K W.Av H0 ss) e f) (hx : X.N[i]? = some x) (hxl : X.env.scope.names.lookup x = some .local) (hsw : swapsWith e (some (.Name x px)) spos.line X.env = pure true) :
    SN X W H0 ss (.Assign [.Name x px] e spos) ((ss.map (SK.cm Prod.fst)).set i (.o fun g' : γ × Ls α => enc g'.2)) f := fun g s x s' rn σ H hR hW D nd => by
  obtain ⟨t, _, p, k⟩ := h
  refine wS.of (p i _ px spos hx hxl hsw) (k g s x s' rn σ H hR hW _ fun v H1 g1 w1 p => ?_)
  obtain ⟨r, t⟩ := Rr.putO i hR hW g1 p
  exact nd _ H1 t w1 r
theorem CL.le {ss' : List (SK γ)} {f : γ → m (Ls α)} (le : LeS (fun g : γ => g) ss' ss) (h : CL X W (Rr X.K W.Av H0 ss') e f) : CL X W (Rr X.K W.Av H0 ss) e f := by
  obtain ⟨t, p, p2, k⟩ := h
  exact ⟨t, p, p2, fun g s x s' rn σ H hR hW Q q => k g s x s' rn σ H (Rr.le (π := fun g => g) le hR) hW Q q⟩
theorem CL_lc (own : List (Str × Nat)) {ups : List (Nat × (β → PyData))} {fi : γ → m (List β)} {fe : γ → β → m α} [Imm α] (hcm : X.calm = true) (hN : X.N.Nodup) (ok : BlkOk X.N X.env.scope scope own)
    (hi : IV X W H0 ss tg iter fi) (ht : ∀ s H C cl fp, TJ (Bk X scope s H C cl fp) tg ups) (hv : ∀ i ∈ ups.map (·.1), i ∈ own.map (·.2))
    (he : ∀ s H C cl fp, EV (Bk X scope s H C cl fp) W (Rr X.K W.Av H0 (bkS ups own ss)) elt (fun g' => fe g'.1 g'.2)) (hs : ∀ x, foldedSetIterable iter X.env x = pure x) :
    CL X W (Rr X.K W.Av H0 ss) (.ListComp elt [⟨tg, iter, [], 0⟩] scope pos) (fun g => fi g >>= fun xs => mapL (fun y => fe g y) xs >>= fun ys => pure (Ls.mk ys)) :=
  ⟨_, pe_lc hcm hN (piW tg iter) ok pgA (fun _ _ _ _ _ => pts_nil) peA hs, fun i y py spos hx hxl hsw => ps_setLc hcm hN hx hxl hsw (piW tg iter) ok pgA (fun _ _ _ _ _ => pts_nil) peA hs, fun g s x s' rn σ H hR hW Q q => by
    obtain ⟨xs, s1, e0, rn⟩ := run_bind_some rn
    obtain ⟨ys, s2, e1, rn⟩ := run_bind_some rn
    obtain ⟨rfl, rfl⟩ := run_pure_some rn
    refine lc_read (fe := fun g' => fe g'.1 g'.2) (fc := fun _ => pure true) (ys := ys) (s' := s2) hi ht hv (fun g s x s' r σ H hR hW Q q => ?_) he (by rw [MR.run_bind, e0]; exact selL_true.trans e1) hR hW q
    obtain ⟨rfl, rfl⟩ := run_pure_some r
    exact q H (.refl _ _) hW⟩
theorem CL_lcIf (own : List (Str × Nat)) {ups : List (Nat × (β → PyData))} {fi : γ → m (List β)} {fc : γ → β → m Bool} {fe : γ → β → m α} [Imm α] (hcm : X.calm = true) (hN : X.N.Nodup) (ok : BlkOk X.N X.env.scope scope own)
    (hi : IV X W H0 ss tg iter fi) (ht : ∀ s H C cl fp, TJ (Bk X scope s H C cl fp) tg ups) (hv : ∀ i ∈ ups.map (·.1), i ∈ own.map (·.2))
    (hc : ∀ s H C cl fp, TV (Bk X scope s H C cl fp) W (Rr X.K W.Av H0 (bkS ups own ss)) c (fun g' => fc g'.1 g'.2))
    (he : ∀ s H C cl fp, EV (Bk X scope s H C cl fp) W (Rr X.K W.Av H0 (bkS ups own ss)) elt (fun g' => fe g'.1 g'.2)) (hs : ∀ x, foldedSetIterable iter X.env x = pure x) :
    CL X W (Rr X.K W.Av H0 ss) (.ListComp elt [⟨tg, iter, [c], 0⟩] scope pos) (fun g => fi g >>= fun xs => selL (fun y => fc g y) (fun y => fe g y) xs >>= fun ys => pure (Ls.mk ys)) :=
  ⟨_, pe_lc hcm hN (piW tg iter) ok pgA (fun s H C cl fp => pts_one (ptA s H C cl fp)) peA hs, fun i y py spos hx hxl hsw => ps_setLc hcm hN hx hxl hsw (piW tg iter) ok pgA (fun s H C cl fp => pts_one (ptA s H C cl fp)) peA hs, fun g s x s' rn σ H hR hW Q q => by
    obtain ⟨xs, s1, e0, rn⟩ := run_bind_some rn
    obtain ⟨ys, s2, e1, rn⟩ := run_bind_some rn
    obtain ⟨rfl, rfl⟩ := run_pure_some rn
    exact lc_read (fe := fun g' => fe g'.1 g'.2) (fc := fun g' => fc g'.1 g'.2) (ys := ys) (s' := s2) hi ht hv (fun g s x s' r σ H hR hW Q q => fun s8 H8 C8 cl8 fp8 => hc s8 H8 C8 cl8 fp8 g s x s' r σ H hR hW Q q) he (by rw [MR.run_bind, e0]; exact e1) hR hW q⟩
/-- what an inner clause walks: nothing of it is the list that is being made -/
def IV1 (X : Cx) (W : Wd S) (H0 : Hp) (ss : List (SK γ)) (tg iter : Expr) (f : γ → m (List β)) : Prop :=
  ∀ g s xs s', MR.run (f g) s = some (xs, s') → ∀ σ H (D : Addr), H0 D = none → H D ≠ none → ¬ W.Av D → Rr X.K (fun a => W.Av a ∨ a = D) H0 ss g σ H → Rr X.K W.Av H0 ss g σ H → W.WI s H → ∀ Q : It → Hp → Prop,
    (∀ J H1, gr W.Av H H1 → W.WI s' H1 → Wk X.K (fun a => W.Av a ∨ a = D) J H1 xs → Q J H1) → wI X tg iter σ H Q
theorem wk_tup [Imm β] {K : PySem.W.Frag} {A B : Addr → Prop} {a : Addr} {vs : List V} {xs : List β} {H1 : Hp} (hs : SqT K H1 a vs) (hz : vs.length ≤ sizeLine) (hx : RpAll K B H1 vs (xs.map enc)) : Wk K A (Itt K a) H1 xs := ⟨by rw [← List.length_map (f := enc) (as := xs), ← hx.length]; exact hz, fun H' g' => by
  have hs' := g'.sqt hs
  have hx' : RpAll K (fun _ => True) H' vs (xs.map enc) := RpAll.mono (g'.mono fun _ _ => trivial) (hx.any (immDs_map xs))
  have hl := hx.length
  rw [List.length_map] at hl
  refine ⟨fun i hi => ⟨vs, hs', by rw [hl]; exact hi⟩, fun i y hy => ?_⟩
  obtain ⟨v, e1, e2⟩ := hx'.getI hy
  refine ⟨⟨vs, v, hs', e1⟩, fun x H'' hyl => ?_⟩
  obtain ⟨rfl, hyl⟩ := hyl
  have := hyl vs hs'
  rw [e1] at this
  cases this
  exact ⟨Same.refl _, e2⟩⟩
theorem J_tup [Imm β] {f : γ → m (List β)} (h : EV X W (Rr X.K W.Av H0 ss) e f) : IV1 X W H0 ss tg e f := fun g s xs s' rn σ H D d0 d1 d2 _ hR hW Q q => by
  refine wI.of (pi_tup (peW e)) (h g s xs s' rn σ H hR hW _ fun v H1 g1 w1 p => ?_)
  obtain ⟨a, vs, rfl, hz, hs, hx⟩ := p.tup_inv
  exact ⟨a, rfl, ⟨vs, hs⟩, q _ H1 g1 w1 (wk_tup hs hz hx)⟩
theorem J_lst [Imm β] {f : γ → m (Ls β)} (h : EVf X W (Rr X.K W.Av H0 ss) e f) : IV1 X W H0 ss tg e (fun g => f g >>= fun x => pure x.l) := fun g s xs s' rn σ H D d0 d1 d2 _ hR hW Q q => by
  obtain ⟨z0, s1, e0, rn⟩ := run_bind_some rn
  obtain ⟨rfl, rfl⟩ := run_pure_some rn
  refine wI.of (pi_list (peW e)) (h g s z0 s1 e0 σ H hR hW _ fun v H1 g1 w1 p => ?_)
  obtain ⟨a, vs, rfl, hn, hz, hs, hx⟩ := p.lst_inv
  refine ⟨a, rfl, ⟨vs, .of hs⟩, q _ H1 g1 w1 (wk_list (fun z => ?_) hs hz hx)⟩
  rcases z with z | z
  · exact hn (W.old s H a hW z)
  · subst z; exact hn d1
theorem J_v [Imm β] {x : Str} {p : Pos} (i : Nat) (ok : okNames X.N = true) {f : γ → Ls β} (hk : ss[i]? = some (.v fun g => enc (f g))) (hN : X.N[i]? = some x) (hv : Vis X.env.scope x) :
    IV1 X W H0 ss tg (.Name x p) (fun g => (pure (f g).l : m (List β))) := fun g s xs s' rn σ H D d0 d1 d2 hD hR hW Q q => by
  obtain ⟨rfl, rfl⟩ := run_pure_some rn
  have hi : i < ss.length := (List.getElem?_eq_some_iff.mp hk).1
  obtain ⟨w, hs⟩ : ∃ w, σ[i]? = some w := ⟨_, List.getElem?_eq_getElem (show i < σ.length by rw [← hR.len]; exact hi)⟩
  obtain ⟨v, rfl, p⟩ := hD.slot i _ _ hk hs
  obtain ⟨a, vs, rfl, hn, hz, hl, hx⟩ := p.lst_inv
  exact wI.of (pi_list (pe_var hN hv (okNames_get ok hN).1 (okNames_get ok hN).2)) ⟨_, hs, a, rfl, ⟨vs, .of hl⟩, q _ H (.refl _ _) hW (wk_list (fun z => hn (.inl z)) hl hz hx)⟩
theorem J_rng1 {p : Pos} {f : γ → m Int} (hm : X.mg "range" = none) (hg : Gl X "range") (n : NS a) (h : EV X W (Rr X.K W.Av H0 ss) a f) : IV1 X W H0 ss tg (.Call (.Name "range" p) [a] [] pos) (fun g => f g >>= fun n => MR.lift (rngM 0 n)) := fun g s xs s' rn σ H D _ _ _ _ hR hW Q q => by
  obtain ⟨z0, s1, e0, rn⟩ := run_bind_some rn
  obtain ⟨h3, rfl⟩ := run_lift_some rn
  unfold rngM at h3
  split at h3
  · rename_i c
    cases h3
    refine wI.of (pi_range1 hg hm (pa_cons (peW a) pa_nil (n _ _)) (by rw [n]; unfold starEach; rfl)) (h g s z0 _ e0 σ H hR hW _ fun v H1 g1 w1 p => ⟨z0, by rw [p.int_inv], by omega, by omega, q _ H1 g1 w1 ?_⟩)
    have := wk_rng (K := X.K) (A := fun a => W.Av a ∨ a = D) (H1 := H1) (lo := 0) (hi := z0) (by omega)
    rw [Int.sub_zero] at this
    exact this
  · cases h3
theorem J_rng2 {p : Pos} {f k : γ → m Int} (hm : X.mg "range" = none) (hg : Gl X "range") (n : NS a) (n' : NS b) (h : EV X W (Rr X.K W.Av H0 ss) a f) (h' : EV X W (Rr X.K W.Av H0 ss) b k) : IV1 X W H0 ss tg (.Call (.Name "range" p) [a, b] [] pos) (fun g => f g >>= fun lo => k g >>= fun hi => MR.lift (rngM lo hi)) := fun g s xs s' rn σ H D _ _ _ _ hR hW Q q => by
  obtain ⟨z0, s1, e0, rn⟩ := run_bind_some rn
  obtain ⟨z1, s2, e1, rn⟩ := run_bind_some rn
  obtain ⟨h3, rfl⟩ := run_lift_some rn
  unfold rngM at h3
  split at h3
  · rename_i c
    cases h3
    exact wI.of (pi_range2 hg hm (pa_cons (peW a) (pa_cons (peW b) pa_nil (n' _ _)) (n _ _)) (by rw [n, n']; unfold starEach; rfl) (by rw [n']; unfold starEach; rfl)) (EV.two Rr.stb h h' e0 e1 hR hW fun v u H1 g1 w1 p p' => ⟨z0, z1, by rw [p.int_inv, p'.int_inv], ⟨by omega, by omega, by omega, by omega⟩, q _ H1 g1 w1 (wk_rng (by omega))⟩)
  · cases h3
/-- lists laid one behind the other -/
def bindL (f : β → m (List α)) : List β → m (List α)
  | [] => pure []
  | x :: xs => f x >>= fun ys => bindL f xs >>= fun zs => pure (ys ++ zs)
def lenM {α : Type} (ys : List α) : Option (Ls α) := if ys.length ≤ 1000000 then some ⟨ys⟩ else none
variable {ε : Type} [Py ε]
abbrev bkS2 (ups : List (Nat × (β → PyData))) (own : List (Str × Nat)) (ups1 : List (Nat × (ε → PyData))) (vs1 : List Nat) (ss : List (SK γ)) : List (SK ((γ × β) × ε)) :=
  setK (ups1.map fun u => (u.1, fun g' : (γ × β) × ε => u.2 g'.2)) ((wipeK (bkS ups own ss) vs1).map (SK.cm Prod.fst))
def iA (X : Cx) (scope : Scope) (tg e : Expr) : TI := fun σ H Q => ∀ s H' C cl fp, wI (Bk X scope s H' C cl fp) tg e σ H Q
theorem piA (s : Shared) (H : Hp) (C : Addr) (cl : List (Str × Addr)) (fp : List Addr) : PI (Bk X scope s H C cl fp) tg iter (iA X scope tg iter) := ⟨fun pins s' _ _ _ I h => h s H C cl fp pins s' I⟩
theorem gr_put {A : Addr → Prop} {H : Hp} {D : Addr} {xs ys : List V} (h : H D = some (.lst xs)) : gr (fun a => A a ∨ a = D) H (upd H D (.lst ys)) := ⟨fun a o e z => by
  by_cases ha : a = D
  · subst ha
    rw [h] at e
    cases e
    exact absurd (z (.inr rfl)) (fun z => z)
  · rw [upd_ne ha]; exact e, fun a h => by
  by_cases ha : a = D
  · subst ha; rw [upd_same]; simp
  · rw [upd_ne ha]; exact h⟩
theorem lc2_read {own : List (Str × Nat)} {vs1 : List Nat} {ups : List (Nat × (β → PyData))} {ups1 : List (Nat × (ε → PyData))} {fi : γ → m (List β)} {fc : γ × β → m Bool} {fi1 : γ × β → m (List ε)} {fc1 : (γ × β) × ε → m Bool} {fe : (γ × β) × ε → m α} {tt tt1 : TT} [Imm α]
    (hi : IV X W H0 ss tg iter fi) (ht : ∀ s H C cl fp, TJ (Bk X scope s H C cl fp) tg ups) (hv : ∀ i ∈ ups.map (·.1), i ∈ own.map (·.2))
    (hc : ∀ g s x s', MR.run (fc g) s = some (x, s') → ∀ σ H, Rr X.K W.Av H0 (bkS ups own ss) g σ H → W.WI s H → ∀ Q : Bool → Hp → Prop, (∀ H', gr W.Av H H' → W.WI s' H' → Q x H') → tt σ H Q)
    (hi1 : ∀ s H C cl fp, IV1 (Bk X scope s H C cl fp) W H0 (bkS ups own ss) tg1 iter1 fi1) (ht1 : ∀ s H C cl fp, TJ (Bk X scope s H C cl fp) tg1 ups1) (hv1 : ∀ i ∈ ups1.map (·.1), i ∈ vs1)
    (hc1 : ∀ g s x s', MR.run (fc1 g) s = some (x, s') → ∀ σ H, Rr X.K W.Av H0 (bkS2 ups own ups1 vs1 ss) g σ H → W.WI s H → ∀ Q : Bool → Hp → Prop, (∀ H', gr W.Av H H' → W.WI s' H' → Q x H') → tt1 σ H Q)
    (he : ∀ s H C cl fp, EV (Bk X scope s H C cl fp) W (Rr X.K W.Av H0 (bkS2 ups own ups1 vs1 ss)) elt fe)
    {g : γ} {s s' : S} {ys : List α} (hlim : ys.length ≤ 1000000)
    (rn : MR.run (fi g >>= fun xs => bindL (fun y => fc (g, y) >>= fun b => if b = true then fi1 (g, y) >>= fun zs => selL (fun z => fc1 ((g, y), z)) (fun z => fe ((g, y), z)) zs else pure []) xs) s = some (ys, s')) {σ : Sg} {H : Hp} (hR : Rr X.K W.Av H0 ss g σ H) (hW : W.WI s H) {Q : VK}
    (q : ∀ v H', gr W.Av H H' → W.WI s' H' → Rp X.K (fun a => H a ≠ none) H' v (enc (Ls.mk ys)) → Q v H') : tLc2 (wI X tg iter) (gA X scope tg) tt (iA X scope tg1 iter1) (gA X scope tg1) tt1 (eA X scope elt) (own.map (·.2)) vs1 σ H Q := by
  have hbig : 1000000 < sizeLine := by rw [sizeLine_eq]; omega
  obtain ⟨xs, s1, e0, rn⟩ := run_bind_some rn
  refine hi g s xs s1 e0 σ H hR hW _ fun J H1 g1 w1 wk D hD => ?_
  obtain ⟨hlen, wk⟩ := wk
  have nA : ¬ W.Av D := fun z => W.old s1 H1 D w1 z hD
  have nD : H D = none := by
    cases q : H D with
    | none => rfl
    | some o => exact absurd hD (g1.ex D (by rw [q]; simp))
  have n0 : H0 D = none := by
    cases q : H0 D with
    | none => rfl
    | some o => exact absurd nD (hR.base.ex D (by rw [q]; simp))
  have toA : ∀ {ε : Type} {ss : List (SK ε)} {g : ε} {σ H}, Rr X.K (fun a => W.Av a ∨ a = D) H0 ss g σ H → Rr X.K W.Av H0 ss g σ H := fun r => r.av (fun a z => .inl (.inl z)) (fun a z => by
    rcases z with z | rfl
    · exact .inl z
    · exact .inr n0)
  refine ⟨fun i mm H' => mm = xs.length - i ∧ i ≤ xs.length ∧ ∃ ys1 ys2 s2 acc, MR.run (bindL (fun y => fc (g, y) >>= fun b => if b = true then fi1 (g, y) >>= fun zs => selL (fun z => fc1 ((g, y), z)) (fun z => fe ((g, y), z)) zs else pure []) (xs.drop i)) s2 = some (ys2, s') ∧ ys = ys1 ++ ys2 ∧ W.WI s2 H' ∧
      Rr X.K (fun a => W.Av a ∨ a = D) H0 (wipeK ss (own.map (·.2))) g (L2.wipe σ (own.map (·.2))) H' ∧ gr W.Av H1 H' ∧ H' D = some (.lst acc) ∧ RpAll X.K (fun _ => True) H' acc (ys1.map enc), ⟨_, rfl, Nat.zero_le _, [], ys, s1, [], rn, rfl, W.new w1 hD, ?_, .new hD, upd_same, .nil⟩, ?_⟩
  · refine Rr.wipe ?_ _
    exact ((hR.st g1).av (fun a z => z.imp id fun e => by rw [e]; exact hD) (fun a z => .inl (.inl z))).st (.new hD)
  rintro i mm H' ⟨rfl, hile, ys1, ys2, s2, acc, h2, hys, w2, r2, g2, hacc, hrp⟩
  have hal : acc.length = ys1.length := by have := hrp.length; rw [List.length_map] at this; exact this
  have hyl1 : ys1.length ≤ ys.length := by rw [hys, List.length_append]; omega
  by_cases hlt : i < xs.length
  · obtain ⟨hgo, hyl⟩ := (wk H' (g2.mono fun _ z => .inl z)).2 i xs[i] (List.getElem?_eq_getElem hlt)
    refine .inr ⟨hgo, _, fun H3 h => ⟨xs.length - (i + 1), by omega, ⟨rfl, hlt, h⟩⟩, fun x H'' y => ?_⟩
    obtain ⟨sm, p⟩ := hyl x H'' y
    have w3 : W.WI s2 H'' := W.keep _ _ _ w2 fun a o _ z => sm a o z
    intro s8 H8 C8 cl8 fp8
    refine ht s8 H8 C8 cl8 fp8 x xs[i] _ H'' p _ fun vs hv' => ?_
    refine ⟨wipe_setAll fun j hj => hv j ?_, ?_⟩
    · obtain ⟨w, hw, rfl⟩ := List.mem_map.mp hj
      exact (List.of_mem_zip (a := w.1) (b := w.2) hw).1
    have r3 := ((r2.st (.of_same sm)).cm (Prod.fst : γ × β → γ) (g' := (g, xs[i])) rfl)
    have hv2 : RpAll X.K (fun _ => True) H'' vs ((ups.map fun u => (u.1, fun g' : γ × β => u.2 g'.2)).map fun u => u.2 (g, xs[i])) := by rw [List.map_map]; exact hv'
    obtain ⟨r4, o4⟩ := Rr.setK hv2 r3
    rw [upsmap] at r4
    generalize hσ2 : setAll ((ups.map (·.1)).zip vs) (L2.wipe σ (own.map (·.2))) = σ2 at r4
    rw [List.drop_eq_getElem_cons hlt] at h2
    unfold bindL at h2
    obtain ⟨yi, s5, h5, h6⟩ := run_bind_some h2
    obtain ⟨yr, s6, h7, h8⟩ := run_bind_some h6
    obtain ⟨e8, rfl⟩ := run_pure_some h8
    obtain ⟨b, s7, h9, h10⟩ := run_bind_some h5
    refine hc (g, xs[i]) s2 b s7 h9 _ H'' (toA r4) w3 _ fun H3 g3 w4 => ?_
    have g5 : gr W.Av H' H3 := (gr.of_same sm).trans g3
    cases b with
    | false =>
      simp only [Bool.false_eq_true, if_false] at h10 ⊢
      obtain ⟨e10, rfl⟩ := run_pure_some h10
      refine ⟨ys1, ys2, s7, acc, ?_, hys, w4, r2.st (g5.mono fun _ z => .inl z), g2.trans g5, g5.immO hacc nA, hrp.mono (g5.mono fun _ _ => trivial)⟩
      rw [← e8, ← e10, List.nil_append]; exact h7
    | true =>
      simp only [if_true] at h10 ⊢
      obtain ⟨zs, s9, h11, h12⟩ := run_bind_some h10
      intro s3 H3' C3 cl3 fp3
      have hD3 : H3 D = some (.lst acc) := g5.immO hacc nA
      refine hi1 s3 H3' C3 cl3 fp3 (g, xs[i]) s7 zs s9 h11 σ2 H3 D n0 (by rw [hD3]; simp) nA (r4.st (g3.mono fun _ z => .inl z)) ((toA r4).st g3) w4 _ fun J1 H4 g4 w5 wk1 => ?_
      obtain ⟨hlen1, wk1⟩ := wk1
      have hD4 : H4 D = some (.lst acc) := g4.immO hD3 nA
      have g6 : gr W.Av H' H4 := g5.trans g4
      refine ⟨fun j kk Hj => kk = zs.length - j ∧ j ≤ zs.length ∧ ∃ y1 y2 sj accj, MR.run (selL (fun z => fc1 ((g, xs[i]), z)) (fun z => fe ((g, xs[i]), z)) (zs.drop j)) sj = some (y2, s5) ∧ yi = y1 ++ y2 ∧ W.WI sj Hj ∧
        Rr X.K (fun a => W.Av a ∨ a = D) H0 (wipeK (bkS ups own ss) vs1) (g, xs[i]) (L2.wipe σ2 vs1) Hj ∧ Rr X.K (fun a => W.Av a ∨ a = D) H0 (wipeK ss (own.map (·.2))) g (L2.wipe σ (own.map (·.2))) Hj ∧ gr (fun a => W.Av a ∨ a = D) H4 Hj ∧ gr W.Av H1 Hj ∧ Hj D = some (.lst accj) ∧ RpAll X.K (fun _ => True) Hj accj ((ys1 ++ y1).map enc),
        ⟨_, rfl, Nat.zero_le _, [], yi, s9, acc, h12, rfl, w5, Rr.wipe (r4.st ((g3.trans g4).mono fun _ z => .inl z)) _, r2.st (g6.mono fun _ z => .inl z), .refl _ _, g2.trans g6, hD4, ?_⟩, ?_⟩
      · rw [List.append_nil]; exact hrp.mono (g6.mono fun _ _ => trivial)
      rintro j kk Hj ⟨rfl, hjle, y1, y2, sj, accj, hj2, hyi, wj, rj, roj, g7, g8, haccj, hrpj⟩
      have halj : accj.length = (ys1 ++ y1).length := by have := hrpj.length; rw [List.length_map] at this; exact this
      by_cases hltj : j < zs.length
      · obtain ⟨hgoj, hylj⟩ := (wk1 Hj g7).2 j zs[j] (List.getElem?_eq_getElem hltj)
        refine .inr ⟨hgoj, _, fun H3 h => ⟨zs.length - (j + 1), by omega, ⟨rfl, hltj, h⟩⟩, fun x1 Hk yk => ?_⟩
        obtain ⟨smk, pk⟩ := hylj x1 Hk yk
        have wk3 : W.WI sj Hk := W.keep _ _ _ wj fun a o _ z => smk a o z
        intro s8 H8 C8 cl8 fp8
        refine ht1 s8 H8 C8 cl8 fp8 x1 zs[j] _ Hk pk _ fun us hu' => ?_
        refine ⟨wipe_setAll fun j hj => hv1 j ?_, ?_⟩
        · obtain ⟨w, hw, rfl⟩ := List.mem_map.mp hj
          exact (List.of_mem_zip (a := w.1) (b := w.2) hw).1
        have r5 := ((rj.st (.of_same smk)).cm (Prod.fst : (γ × β) × ε → γ × β) (g' := ((g, xs[i]), zs[j])) rfl)
        have hu2 : RpAll X.K (fun _ => True) Hk us ((ups1.map fun u => (u.1, fun g' : (γ × β) × ε => u.2 g'.2)).map fun u => u.2 ((g, xs[i]), zs[j])) := by rw [List.map_map]; exact hu'
        obtain ⟨r6, o6⟩ := Rr.setK hu2 r5
        rw [upsmap] at r6
        rw [List.drop_eq_getElem_cons hltj] at hj2
        unfold selL at hj2
        obtain ⟨b1, sk, k5, k6⟩ := run_bind_some hj2
        refine hc1 ((g, xs[i]), zs[j]) sj b1 sk k5 _ Hk (toA r6) wk3 _ fun H6 g9 w6 => ?_
        have gk : gr W.Av Hj H6 := (gr.of_same smk).trans g9
        cases b1 with
        | false =>
          simp only [Bool.false_eq_true, if_false] at k6 ⊢
          exact ⟨y1, y2, sk, accj, k6, hyi, w6, rj.st (gk.mono fun _ z => .inl z), roj.st (gk.mono fun _ z => .inl z), g7.trans (gk.mono fun _ z => .inl z), g8.trans gk, gk.immO haccj nA, hrpj.mono (gk.mono fun _ _ => trivial)⟩
        | true =>
          simp only [if_true] at k6 ⊢
          obtain ⟨z1, sl, k7, k8⟩ := run_bind_some k6
          obtain ⟨z2, sm2, k9, k10⟩ := run_bind_some k8
          obtain ⟨rfl, rfl⟩ := run_pure_some k10
          intro t9 H9 C9 cl9 fp9
          refine he t9 H9 C9 cl9 fp9 ((g, xs[i]), zs[j]) sk z1 sl k7 _ H6 ((toA r6).st g9) w6 _ fun v H7 g10 w7 p7 => ?_
          have gl : gr W.Av Hj H7 := gk.trans g10
          have hacc7 : H7 D = some (.lst accj) := gl.immO haccj nA
          have gD : gr (fun a => W.Av a ∨ a = D) H7 (upd H7 D (.lst (accj ++ [v]))) := gr_put hacc7
          have gm : gr (fun a => W.Av a ∨ a = D) Hj (upd H7 D (.lst (accj ++ [v]))) := (gl.mono fun _ z => .inl z).trans gD
          have p7 : Rp X.K W.Av H7 v (enc z1) := p7
          have hsz : accj.length < 1000000 := by
            have e1 : ys.length = ys1.length + ((y1.length + (z2.length + 1)) + yr.length) := by
              rw [hys, ← e8, hyi]; simp only [List.length_append, List.length_cons]
            rw [halj, List.length_append]; omega
          refine ⟨accj, hacc7, by omega, y1 ++ [z1], z2, sl, accj ++ [v], k9, by rw [hyi]; simp, ?_, rj.st gm, roj.st gm, g7.trans gm, ⟨fun a o e z => ?_, fun a h => gm.ex a (g8.ex a h)⟩, upd_same, ?_⟩
          · exact W.keep _ _ _ w7 fun a o z e => by rw [upd_ne (show a ≠ D from fun c => by subst c; exact nA z)]; exact e
          · rw [upd_ne (ne_of_none e hD)]
            exact gl.kp a o (g8.kp a o e z) z
          · rw [← List.append_assoc, List.map_append]
            exact (hrpj.mono (gm.mono fun _ _ => trivial)).append (.cons ((p7.any (Imm.imm z1)).mono (gD.mono fun _ _ => trivial)) .nil)
      · have e : j = zs.length := by omega
        subst e
        rw [List.drop_length] at hj2
        unfold selL at hj2
        obtain ⟨rfl, rfl⟩ := run_pure_some hj2
        rw [List.append_nil] at hyi
        subst hyi
        refine .inl ⟨(wk1 Hj g7).1 _ (Nat.le_refl _), ys1 ++ yi, yr, sj, accj, h7, by rw [hys, ← e8, List.append_assoc], wj, roj, g8, haccj, hrpj⟩
  · have e : i = xs.length := by omega
    subst e
    rw [List.drop_length] at h2
    unfold bindL at h2
    obtain ⟨rfl, rfl⟩ := run_pure_some h2
    rw [List.append_nil] at hys
    subst hys
    exact .inl ⟨(wk H' (g2.mono fun _ z => .inl z)).1 _ (Nat.le_refl _), q _ H' (g1.trans g2) w2 (.obj (fun z => z nD) (.lst (by omega) hacc (hrp.any (immDs_map ys))))⟩
/-- two clauses: [e for t in i if c for t1 in i1 if c1], tests or none -/
inductive OT (X : Cx) (W : Wd S) (R : γ → Sg → Hp → Prop) (scope : Scope) (X0 : Cx) : List Expr → (γ → m Bool) → Prop
  | no : OT X W R scope X0 [] (fun _ => pure true)
  | if {c : Expr} {f : γ → m Bool} (h : ∀ s H C cl fp, TV (Bk X0 scope s H C cl fp) W R c f) : OT X W R scope X0 [c] f
theorem OT.rd {cs : List Expr} {f : γ → m Bool} {R : γ → Sg → Hp → Prop} (h : OT X W R scope X cs f) : ∃ tt : TT, (∀ (s : Shared) (H : Hp) (C : Addr) (cl : List (Str × Addr)) (fp : List Addr), PTs (Bk X scope s H C cl fp) cs tt) ∧
    ∀ g s x s', MR.run (f g) s = some (x, s') → ∀ σ H, R g σ H → W.WI s H → ∀ Q : Bool → Hp → Prop, (∀ H', gr W.Av H H' → W.WI s' H' → Q x H') → tt σ H Q := by
  cases h with
  | no => exact ⟨tYes, fun _ _ _ _ _ => pts_nil, fun g s x s' r σ H hR hW Q q => by
      obtain ⟨rfl, rfl⟩ := run_pure_some r
      exact q H (.refl _ _) hW⟩
  | «if» h => exact ⟨_, fun s H C cl fp => pts_one (ptA s H C cl fp), fun g s x s' r σ H hR hW Q q => fun s8 H8 C8 cl8 fp8 => h s8 H8 C8 cl8 fp8 g s x s' r σ H hR hW Q q⟩
theorem CL_lc2 (own : List (Str × Nat)) (vs1 : List Nat) {cs cs1 : List Expr} {ups : List (Nat × (β → PyData))} {ups1 : List (Nat × (ε → PyData))} {fi : γ → m (List β)} {fc : γ → β → m Bool} {fi1 : γ → β → m (List ε)} {fc1 : γ → β → ε → m Bool} {fe : γ → β → ε → m α} [Imm α] (hcm : X.calm = true) (hN : X.N.Nodup) (ok : BlkOk X.N X.env.scope scope own)
    (hi : IV X W H0 ss tg iter fi) (ht : ∀ s H C cl fp, TJ (Bk X scope s H C cl fp) tg ups) (hv : ∀ i ∈ ups.map (·.1), i ∈ own.map (·.2))
    (hc : OT X W (Rr X.K W.Av H0 (bkS ups own ss)) scope X cs (fun g' => fc g'.1 g'.2))
    (hi1 : ∀ s H C cl fp, IV1 (Bk X scope s H C cl fp) W H0 (bkS ups own ss) tg1 iter1 (fun g' => fi1 g'.1 g'.2)) (ht1 : ∀ s H C cl fp, TJ (Bk X scope s H C cl fp) tg1 ups1) (hv0 : ∀ i ∈ vs1, i ∈ own.map (·.2)) (hv1 : ∀ i ∈ ups1.map (·.1), i ∈ vs1)
    (hc1 : OT X W (Rr X.K W.Av H0 (bkS2 ups own ups1 vs1 ss)) scope X cs1 (fun g' => fc1 g'.1.1 g'.1.2 g'.2))
    (he : ∀ s H C cl fp, EV (Bk X scope s H C cl fp) W (Rr X.K W.Av H0 (bkS2 ups own ups1 vs1 ss)) elt (fun g' => fe g'.1.1 g'.1.2 g'.2)) (hs : ∀ x, foldedSetIterable iter X.env x = pure x) (hs1 : ∀ env x, foldedSetIterable iter1 env x = pure x) :
    CL X W (Rr X.K W.Av H0 ss) (.ListComp elt [⟨tg, iter, cs, 0⟩, ⟨tg1, iter1, cs1, 0⟩] scope pos) (fun g => fi g >>= fun xs => bindL (fun y => fc g y >>= fun b => if b = true then fi1 g y >>= fun zs => selL (fun z => fc1 g y z) (fun z => fe g y z) zs else pure []) xs >>= fun ys => MR.lift (lenM ys)) := by
  obtain ⟨tt, p1, r1⟩ := hc.rd
  obtain ⟨tt1, p2, r2⟩ := hc1.rd
  refine ⟨_, pe_lc2 hcm hN (piW tg iter) ok hv0 pgA p1 piA pgA p2 peA hs hs1, fun i y py spos hx hxl hsw => ps_setLc2 hcm hN hx hxl hsw (piW tg iter) ok hv0 pgA p1 piA pgA p2 peA hs hs1, fun g s x s' rn σ H hR hW Q q => ?_⟩
  obtain ⟨xs, s1, e0, rn⟩ := run_bind_some rn
  obtain ⟨ys, s2, e1, rn⟩ := run_bind_some rn
  obtain ⟨h3, rfl⟩ := run_lift_some rn
  unfold lenM at h3
  by_cases hl : ys.length ≤ 1000000
  · rw [if_pos hl] at h3
    cases h3
    exact lc2_read (fc := fun g' => fc g'.1 g'.2) (fi1 := fun g' => fi1 g'.1 g'.2) (fc1 := fun g' => fc1 g'.1.1 g'.1.2 g'.2) (fe := fun g' => fe g'.1.1 g'.1.2 g'.2) (ys := ys) hi ht hv r1 hi1 ht1 hv1 r2 he hl (by rw [MR.run_bind, e0]; exact e1) hR hW q
  · rw [if_neg hl] at h3
    cases h3
end
end TC

namespace TC
open PySem PySem.Spec PyProof.Rows L2
open Py (enc)
/-! ### stores side by side, of values or of new lists -/
class Mb (α : Type) [Py α] : Prop where
  inv : ∀ {K : PySem.W.Frag} {A : Addr → Prop} {H : Hp} {v : V} {x : α}, Rp K A H v (enc x) → ∃ b o, v = .ref b ∧ ¬ A b ∧ (∀ B : Addr → Prop, RpO K B H b (enc x)) ∧ H b = some o ∧ ¬ immO o
instance {α : Type} [Py α] [Imm α] : Mb (Ls α) where
  inv p := by
    rename_i x
    obtain ⟨b, xs, rfl, nb, hz, hb, hx⟩ := p.lst_inv
    exact ⟨b, _, rfl, nb, fun B => .lst hz hb (hx.any (immDs_map x.l)), hb, fun z => z⟩
class Sl (α : Type) [Py α] (o : Bool) : Prop where
  v : o = false → Imm α
  m : o = true → Mb α
instance {α : Type} [Py α] [h : Imm α] : Sl α false := ⟨fun _ => h, fun h => nomatch h⟩
instance {α : Type} [Py α] [h : Mb α] : Sl α true := ⟨(fun h => nomatch h), fun _ => h⟩
def skB {δ : Type} (o : Bool) (d : δ → PyData) : SK δ := if o = true then .o d else .v d
section
variable {S : Type} {m : Type → Type} [Monad m] [MR m S] {γ α β δ : Type} [Py α] [Py β] [Py δ] {X : Cx} {W : Wd S} {H0 : Hp} {R : γ → Sg → Hp → Prop} {ss : List (SK γ)} {e a b c : Expr} {pos : Pos}
def EVk (o : Bool) (X : Cx) (W : Wd S) (R : γ → Sg → Hp → Prop) (e : Expr) (f : γ → m α) : Prop := if o = true then EVf X W R e f else EV X W R e f
theorem EVk.run {o : Bool} {f : γ → m α} (h : EVk o X W R e f) {g : γ} {s s1 : S} {x : α} (r : MR.run (f g) s = some (x, s1)) {σ : Sg} {H : Hp} (hR : R g σ H) (hW : W.WI s H) {Q : VK} (q : ∀ v H', gr W.Av H H' → W.WI s1 H' → Rp X.K (fun a => if o = true then H a ≠ none else W.Av a) H' v (enc x) → Q v H') : wE X e σ H Q := by
  cases o with
  | true => exact (show EVf X W R e f from h) g s x s1 r σ H hR hW Q fun v H' g1 w1 p => q v H' g1 w1 (by simpa using p)
  | false => exact (show EV X W R e f from h) g s x s1 r σ H hR hW Q fun v H' g1 w1 p => q v H' g1 w1 (by simpa using p)
theorem Rr.putB {g : γ} {σ : Sg} {H H1 : Hp} {s : S} {v : V} {x : α} (o : Bool) [Sl α o] (i : Nat) (hR : Rr X.K W.Av H0 ss g σ H) (hW : W.WI s H) (g1 : gr W.Av H H1) (p : Rp X.K (fun a => if o = true then H a ≠ none else W.Av a) H1 v (enc x)) :
    Rr X.K W.Av H0 ((ss.map (SK.cm Prod.fst)).set i (skB o fun g' : γ × α => enc g'.2)) (g, x) (σ.set i (some v)) H1 ∧ Tr W.Av (Own ss σ) H (Own ((ss.map (SK.cm Prod.fst)).set i (skB o fun g' : γ × α => enc g'.2)) (σ.set i (some v))) H1 := by
  have r1 := ((hR.st g1).cm (Prod.fst : γ × α → γ) (g' := (g, x)) rfl)
  cases o with
  | false =>
    have im : Imm α := Sl.v (o := false) rfl
    exact ⟨r1.setv i (fun g' => enc g'.2) (p.any (Imm.imm x)), (Tr.of_gr g1).g, fun a z => .inl (Own.cm (Own.setv z))⟩
  | true =>
    have mb : Mb α := Sl.m (o := true) rfl
    have p : Rp X.K (fun a => H a ≠ none) H1 v (enc x) := by simpa using p
    obtain ⟨b, ob, rfl, nb, hrp, hb, im⟩ := Mb.inv p
    have nb' : H b = none := by
      cases q : H b with
      | none => rfl
      | some o => exact absurd (by rw [q]; simp) nb
    have nown : ¬ Own ss σ b := fun z => (hR.ownS z).1 nb'
    have nAv : ¬ W.Av b := fun z => W.old s H b hW z nb'
    have n0 : H0 b = none := by
      cases q : H0 b with
      | none => rfl
      | some o => exact absurd nb' (hR.base.ex b (by rw [q]; simp))
    refine ⟨r1.seto i (fun g' => enc g'.2) (fun z => nown (Own.cm z)) (fun j k o h1 h2 => ?_) (hrp _) n0 nAv ⟨_, hb, im⟩, (Tr.of_gr g1).g, fun a z => ?_⟩
    · obtain ⟨k', e1, rfl⟩ := cm_get h1
      have s := hR.slot j k' o e1 h2
      have sub : ∀ a, (W.Av a ∨ Own (ss.map (SK.cm (Prod.fst : γ × α → γ))) σ a) ∨ a = b → H a ≠ none → (W.Av a ∨ Own ss σ a) := fun a z q => by
        rcases z with z | rfl
        · exact z.imp id Own.cm
        · exact absurd nb' q
      have gB : gr (fun a => (W.Av a ∨ Own (ss.map (SK.cm (Prod.fst : γ × α → γ))) σ a) ∨ a = b) H H1 := g1.mono fun a z => .inl (.inl z)
      cases k' with
      | u => trivial
      | k w => exact s
      | v d =>
        obtain ⟨w, e, p⟩ := s
        exact ⟨w, e, (p.chg sub).mono gB⟩
      | o d =>
        obtain ⟨a, e, p, n0, nA, y, hy, my⟩ := s
        exact ⟨a, e, (p.chg sub).mono2 gB g1 nA, n0, nA, y, g1.immO hy nA, my⟩
    · rcases Own.seto z with z | rfl
      · exact .inl (Own.cm z)
      · exact .inr nb'
theorem Own.cm' {π : δ → γ} {ss : List (SK γ)} {σ : Sg} {a : Addr} (h : Own (ss.map (SK.cm π)) σ a) : Own ss σ a := Own.cm h
theorem S_par2B {x y : Str} {px py pt : Pos} {kt k2 : Nat} {pt2 : Pos} (o0 o1 : Bool) (i j : Nat) [Sl α o0] [Sl β o1] {fa : γ → m α} {fb : γ → m β} (n0 : NS a) (n1 : NS b) (ha : EVk o0 X W (Rr X.K W.Av H0 ss) a fa) (hb : EVk o1 X W (Rr X.K W.Av H0 ss) b fb)
    (hc : X.calm = true) (hN : X.N.Nodup) (hi : X.N[i]? = some x) (hj : X.N[j]? = some y) (hij : i ≠ j)
    (hx : X.env.scope.names.lookup x = some .local) (hy : X.env.scope.names.lookup y = some .local)
    (hw : swappedStores [.Tuple [.Name x px, .Name y py] kt pt] (.Tuple [a, b] k2 pt2) X.env = pure (some [x, y]))
    (hs : swapsWithSole [.Tuple [.Name x px, .Name y py] kt pt] (.Tuple [a, b] k2 pt2) pos.line X.env = pure false) :
    SN X W H0 ss (.Assign [.Tuple [.Name x px, .Name y py] kt pt] (.Tuple [a, b] k2 pt2) pos) (((((ss.map (SK.cm Prod.fst)).set i (skB o0 fun g' : γ × α => enc g'.2)).map (SK.cm Prod.fst)).set j (skB o1 fun g' : (γ × α) × β => enc g'.2)).map (SK.cm fun p : γ × (α × β) => ((p.1, p.2.1), p.2.2))) (fun g => fa g >>= fun x => fb g >>= fun y => pure (x, y)) := fun g s t s' rn σ H hR hW D nd => by
  obtain ⟨z0, s1, e0, rn⟩ := run_bind_some rn
  obtain ⟨z1, s2, e1, rn⟩ := run_bind_some rn
  obtain ⟨rfl, rfl⟩ := run_pure_some rn
  refine wS.of (ps_par hc hN hi hj hij hx hy (pa_cons (peW a) (pa_cons (peW b) pa_nil (n1 _ _)) (n0 _ _)) hw hs) ?_
  refine ha.run e0 hR hW fun v H1 g1 w1 p1 => hb.run e1 (hR.st g1) w1 fun u H2 g2 w2 p2 => ⟨v, u, rfl, ?_⟩
  obtain ⟨r1, t1⟩ := Rr.putB o0 i hR hW g1 p1
  obtain ⟨r2, t2⟩ := Rr.putB o1 j r1 w1 g2 p2
  exact nd _ H2 ⟨(t1.trans t2).g, fun a z => (t1.trans t2).own a (Own.cm z)⟩ w2 (r2.cm (fun p : γ × (α × β) => ((p.1, p.2.1), p.2.2)) (g' := (g, (z0, z1))) rfl)
theorem S_par3B {x y z : Str} {px py pz pt : Pos} {kt k2 : Nat} {pt2 : Pos} (o0 o1 o2 : Bool) (i j l : Nat) [Sl α o0] [Sl β o1] [Sl δ o2] {fa : γ → m α} {fb : γ → m β} {fc : γ → m δ} (n0 : NS a) (n1 : NS b) (n2 : NS c) (ha : EVk o0 X W (Rr X.K W.Av H0 ss) a fa) (hb : EVk o1 X W (Rr X.K W.Av H0 ss) b fb) (hcc : EVk o2 X W (Rr X.K W.Av H0 ss) c fc)
    (hc : X.calm = true) (hN : X.N.Nodup) (hi : X.N[i]? = some x) (hj : X.N[j]? = some y) (hl : X.N[l]? = some z) (hij : i ≠ j) (hil : i ≠ l) (hjl : j ≠ l)
    (hx : X.env.scope.names.lookup x = some .local) (hy : X.env.scope.names.lookup y = some .local) (hz : X.env.scope.names.lookup z = some .local)
    (hw : swappedStores [.Tuple [.Name x px, .Name y py, .Name z pz] kt pt] (.Tuple [a, b, c] k2 pt2) X.env = pure (some [x, y, z]))
    (hs : swapsWithSole [.Tuple [.Name x px, .Name y py, .Name z pz] kt pt] (.Tuple [a, b, c] k2 pt2) pos.line X.env = pure false) :
    SN X W H0 ss (.Assign [.Tuple [.Name x px, .Name y py, .Name z pz] kt pt] (.Tuple [a, b, c] k2 pt2) pos) (((((((ss.map (SK.cm Prod.fst)).set i (skB o0 fun g' : γ × α => enc g'.2)).map (SK.cm Prod.fst)).set j (skB o1 fun g' : (γ × α) × β => enc g'.2)).map (SK.cm Prod.fst)).set l (skB o2 fun g' : ((γ × α) × β) × δ => enc g'.2)).map (SK.cm fun p : γ × T3 α β δ => (((p.1, p.2.a), p.2.b), p.2.c))) (fun g => fa g >>= fun x => fb g >>= fun y => fc g >>= fun z => pure (T3.mk x y z)) := fun g s t s' rn σ H hR hW D nd => by
  obtain ⟨z0, s1, e0, rn⟩ := run_bind_some rn
  obtain ⟨z1, s2, e1, rn⟩ := run_bind_some rn
  obtain ⟨z2, s3, e2, rn⟩ := run_bind_some rn
  obtain ⟨rfl, rfl⟩ := run_pure_some rn
  refine wS.of (ps_par3 hc hN hi hj hl hij hil hjl hx hy hz (pa_cons (peW a) (pa_cons (peW b) (pa_cons (peW c) pa_nil (n2 _ _)) (n1 _ _)) (n0 _ _)) hw hs) ?_
  refine ha.run e0 hR hW fun v H1 g1 w1 p1 => hb.run e1 (hR.st g1) w1 fun u H2 g2 w2 p2 => hcc.run e2 ((hR.st g1).st g2) w2 fun r H3 g3 w3 p3 => ⟨v, u, r, rfl, ?_⟩
  obtain ⟨r1, t1⟩ := Rr.putB o0 i hR hW g1 p1
  obtain ⟨r2, t2⟩ := Rr.putB o1 j r1 w1 g2 p2
  obtain ⟨r3, t3⟩ := Rr.putB o2 l r2 w2 g3 p3
  exact nd _ H3 ⟨((t1.trans t2).trans t3).g, fun a z => ((t1.trans t2).trans t3).own a (Own.cm z)⟩ w3 (r3.cm (fun p : γ × T3 α β δ => (((p.1, p.2.a), p.2.b), p.2.c)) (g' := (g, ⟨z0, z1, z2⟩)) rfl)
def shlM (i j : Int) : Option Int := if 0 ≤ j ∧ j ≤ 1000000 ∧ i.natAbs < 2 ^ 64 then some (i * 2 ^ j.toNat) else none
def shrM (i j : Int) : Option Int := if 0 ≤ j then some (i / 2 ^ j.toNat) else none
def bandM (i j : Int) : Option Int := some (Builtin.bitAnd i j)
theorem E_shl (sb : Stb W R) {f k : γ → m Int} (ha : EV X W R a f) (hb : EV X W R b k) : EV X W R (.BinOp a .LShift b pos) (fun g => f g >>= fun i => k g >>= fun j => MR.lift (shlM i j)) :=
  E_opI shlM (fun {_} => op_shl) (fun i j z h => by unfold shlM at h; split at h <;> cases h; exact ⟨by assumption, rfl⟩) sb ha hb
theorem E_shr (sb : Stb W R) {f k : γ → m Int} (ha : EV X W R a f) (hb : EV X W R b k) : EV X W R (.BinOp a .RShift b pos) (fun g => f g >>= fun i => k g >>= fun j => MR.lift (shrM i j)) :=
  E_opI shrM (fun {_} => op_shr) (fun i j z h => by unfold shrM at h; split at h <;> cases h; exact ⟨by assumption, rfl⟩) sb ha hb
theorem E_band (sb : Stb W R) {f k : γ → m Int} (ha : EV X W R a f) (hb : EV X W R b k) : EV X W R (.BinOp a .BitAnd b pos) (fun g => f g >>= fun i => k g >>= fun j => MR.lift (bandM i j)) :=
  E_opI (C := fun _ _ => True) bandM (fun {Y} => fun pins s σ H x y v u Q I rx ry h => op_and (X := Y) pins s σ H x y v u Q I rx ry (by obtain ⟨i, j, e1, e2, _, q⟩ := h; exact ⟨i, j, e1, e2, q⟩)) (fun i j z h => by cases h; exact ⟨trivial, rfl⟩) sb ha hb
/-- x.extend(list) -/
theorem S_ext {x : Str} {p1 p2 p3 : Pos} (i : Nat) (ok : okNames X.N = true) {fx : γ → Ls α} {f : γ → m (Ls α)} [Imm α] (hk : ss[i]? = some (.o fun g => enc (fx g))) (n1 : NS e) (he : EV X W (Rr X.K W.Av H0 ss) e f) (hN : X.N[i]? = some x) (hv : Vis X.env.scope x)
    (hs : swapsWith (.Call (.Attribute (.Name x p1) "extend" p2) [e] [] p3) none pos.line X.env = pure false) (hbase : attributeBase (.Name x p1) "extend" X.env (eval (.Name x p1) X.env) = eval (.Name x p1) X.env) (hline : (p2.endLine == p3.line) = true) :
    SN X W H0 ss (.Expr (.Call (.Attribute (.Name x p1) "extend" p2) [e] [] p3) pos) ((ss.map (SK.cm Prod.fst)).set i (.o fun g' : γ × Ls α => enc g'.2)) (fun g => f g >>= fun y => MR.lift (extM (fx g) y)) := fun g s t s' rn σ H hR hW D nd => by
  obtain ⟨y, s1, e0, rn⟩ := run_bind_some rn
  obtain ⟨h3, rfl⟩ := run_lift_some rn
  unfold extM at h3
  by_cases hlt : (fx g).l.length + y.l.length < 1000000
  · rw [if_pos hlt] at h3
    cases h3
    have hi : i < ss.length := (List.getElem?_eq_some_iff.mp hk).1
    obtain ⟨w, hs'⟩ : ∃ w, σ[i]? = some w := ⟨_, List.getElem?_eq_getElem (show i < σ.length by rw [← hR.len]; exact hi)⟩
    obtain ⟨a, rfl, q, _⟩ := hR.slot i _ _ hk hs'
    cases q with
    | lst z h t =>
      refine wS.of (ps_expr (pe_bm PySem.F.plainAttrs_list PySem.F.slot_list_extend PySem.F.type_list_extend mt_extend (pe_var hN hv (okNames_get ok hN).1 (okNames_get ok hN).2) (pa_cons (peW e) pa_nil (n1 _ _)) hbase (by rw [n1]; unfold starEach; rfl) hline (n1 _ _) (by unfold starEach; rfl)) hs) ?_
      refine ⟨_, hs', .inl ⟨rfl, _, .of h⟩, he g s y _ e0 σ H hR hW _ fun v H1 g1 w1 p1 => ?_⟩
      have r1 := hR.st g1
      obtain ⟨a', e', q', n0, nA, x', hx', mx'⟩ := r1.slot i _ _ hk hs'
      cases e'
      obtain ⟨b, zs, rfl, hnb, hzb, hsb, hzs⟩ := p1.lst_inv
      cases q' with
      | lst z' h' t' =>
        rename_i xs'
        have hlen := t'.length
        have hlen2 := hzs.length
        rw [List.length_map] at hlen hlen2
        have hsz : xs'.length + zs.length ≤ sizeLine := by rw [hlen, hlen2, sizeLine_eq]; omega
        refine ⟨a, b, xs', zs, rfl, rfl, h', hsb, hsz, ?_⟩
        have r2 := r1.cm (Prod.fst : γ × Ls α → γ) (g' := (g, ⟨(fx g).l ++ y.l⟩)) rfl
        have hk' : (ss.map (SK.cm (Prod.fst : γ × Ls α → γ)))[i]? = some (.o fun g' => enc (fx g'.1)) := by rw [List.getElem?_map, hk]; rfl
        have gT : gr (fun _ => True) H1 (upd H1 a (.lst (xs' ++ zs))) := grMut h' (fun z => z) trivial
        obtain ⟨r3, g3⟩ := r2.mut i (fun g' => enc g'.2) hk' hs' (o := .lst (xs' ++ zs)) (fun z => z) (.lst (by rw [List.length_append]; exact hsz) upd_same (by
          show RpAll _ _ _ _ (List.map enc ((fx g).l ++ y.l))
          rw [List.map_append]
          exact ((((t'.any (immDs_map (fx g).l)).append (hzs.any (immDs_map y.l))).mono gT).any (by rw [← List.map_append]; exact immDs_map _))))
        refine nd σ _ ⟨?_, fun b zb => .inl ?_⟩ ?_ r3
        · exact (Tr.of_gr g1).g.trans (g3.mono fun b zb => zb.imp id Own.cm)
        · exact Own.cm (Own.seto' hk' zb)
        · exact W.keep _ _ _ w1 fun b o zb eb => by rw [upd_ne (show b ≠ a from fun c => by subst c; exact nA zb)]; exact eb
  · rw [if_neg hlt] at h3
    cases h3
/-- xs.index(e) of a list -/
theorem E_indexL [DecidableEq α] [Deq α] {p2 p3 : Pos} (hu : X.A.units + 64 < cLine) (sb : Stb W R) {f : γ → m (Ls α)} {k : γ → m α} (n1 : NS b) (ha : EV X W R a f) (hb : EV X W R b k)
    (hbase : attributeBase a "index" X.env (eval a X.env) = eval a X.env) (hline : (p2.endLine == p3.line) = true) (hd : Deq.dep α ≤ 60 := by decide) :
    EV X W R (.Call (.Attribute a "index" p2) [b] [] p3) (fun g => f g >>= fun xs => k g >>= fun y => MR.lift (indexM xs.l y)) := fun g s x s' r σ H hR hW Q q => by
  obtain ⟨z0, s1, e0, r⟩ := run_bind_some r
  obtain ⟨z1, s2, e1, r⟩ := run_bind_some r
  obtain ⟨h3, rfl⟩ := run_lift_some r
  unfold indexM at h3
  by_cases cc : Deq.shp z1 = true ∧ z0.l.all Deq.shp = true ∧ z1 ∈ z0.l
  · rw [if_pos cc] at h3
    cases h3
    refine wE.of (pe_bm PySem.F.plainAttrs_list PySem.F.slot_list_index PySem.F.type_list_index (mt_idxL (α := α) hu) (peW a) (pa_cons (peW b) pa_nil (n1 _ _)) hbase (by rw [n1]; unfold starEach; rfl) hline (n1 _ _) (by unfold starEach; rfl)) ?_
    refine ha g s z0 s1 e0 σ H hR hW _ fun v H1 g1 w1 p1 => ?_
    obtain ⟨t, xs, rfl, hn, hz, hs, hx⟩ := p1.lst_inv
    refine ⟨.inl ⟨rfl, _, .of hs⟩, hb g s1 z1 _ e1 σ H1 (sb _ _ _ _ hR g1) w1 _ fun u H2 g2 w2 p2 => ?_⟩
    obtain ⟨t', xs', e', hn', hz', hs', hx'⟩ := (p1.mono g2).lst_inv
    cases e'
    refine ⟨⟨t, xs', rfl, .of hs'⟩, t, u, xs', z0.l, z1, rfl, rfl, .inl (.of hs'), RpAll.dp (canLayAll_map _ cc.2.1) hx', p2.dp (Deq.lay z1 cc.1), cc.2.2, fun z hz => Deq.lay z (List.all_eq_true.mp cc.2.1 z hz), hd, q _ _ (g1.trans g2) w2 (.int _)⟩
  · rw [if_neg cc] at h3
    cases h3
/-- (x, y) = (a, b) by a tuple, values or new lists -/
theorem S_tup2B {x0 x1 : Str} {q0 q1 pt : Pos} {kt k2 : Nat} {pt2 : Pos} (o0 o1 : Bool) (i0 i1 : Nat) [Sl α o0] [Sl β o1] {fa : γ → m α} {fb : γ → m β} (n0 : NS a) (n1 : NS b) (ha : EVk o0 X W (Rr X.K W.Av H0 ss) a fa) (hb : EVk o1 X W (Rr X.K W.Av H0 ss) b fb)
    (hc : X.calm = true) (hN : X.N.Nodup) (h0 : X.N[i0]? = some x0) (h1 : X.N[i1]? = some x1) (hx0 : Loc X.env.scope x0) (hx1 : Loc X.env.scope x1)
    (hf0 : X.fn x0 = true ∨ X.env.scope.names.lookup x0 = some .local) (hf1 : X.fn x1 = true ∨ X.env.scope.names.lookup x1 = some .local)
    (hn : (assignEach [.Name x0 q0, .Name x1 q1] X.env).length = 2) (hst : (assignEach [.Name x0 q0, .Name x1 q1] X.env).findIdx? (·.1) = none)
    (hs : swapsWithSole [.Tuple [.Name x0 q0, .Name x1 q1] kt pt] (.Tuple [a, b] k2 pt2) pos.line X.env = pure false) (hw : swappedStores [.Tuple [.Name x0 q0, .Name x1 q1] kt pt] (.Tuple [a, b] k2 pt2) X.env = pure none) (h3 : (assignEach [.Tuple [.Name x0 q0, .Name x1 q1] kt pt] X.env).map (·.2) = [assign (.Tuple [.Name x0 q0, .Name x1 q1] kt pt) X.env]) :
    SN X W H0 ss (.Assign [.Tuple [.Name x0 q0, .Name x1 q1] kt pt] (.Tuple [a, b] k2 pt2) pos) (((((ss.map (SK.cm Prod.fst)).set i0 (skB o0 fun g' : γ × α => enc g'.2)).map (SK.cm Prod.fst)).set i1 (skB o1 fun g' : (γ × α) × β => enc g'.2)).map (SK.cm fun p : γ × (α × β) => ((p.1, p.2.1), p.2.2))) (fun g => fa g >>= fun x => fb g >>= fun y => pure (x, y)) := fun g s t s' rn σ H hR hW D nd => by
  obtain ⟨z0, s1, e0, rn⟩ := run_bind_some rn
  obtain ⟨z1, s2, e1, rn⟩ := run_bind_some rn
  obtain ⟨rfl, rfl⟩ := run_pure_some rn
  refine wS.of (ps_asg (pe_tup (pa_cons (peW a) (pa_cons (peW b) pa_nil (n1 _ _)) (n0 _ _))) (pg_tup hc (pgs_cons (pg_name hN h0 hx0 hf0) (pgs_cons (pg_name hN h1 hx1 hf1) pgs_nil)) hn hst) hs hw h3) ?_
  refine ha.run e0 hR hW fun v H1 g1 w1 p1 => hb.run e1 (hR.st g1) w1 fun u H2 g2 w2 p2 => ⟨by show 2 ≤ sizeLine; decide, fun p hp => ?_⟩
  obtain ⟨r1, t1⟩ := Rr.putB o0 i0 hR hW g1 p1
  have g3 : gr W.Av H2 (upd H2 p (.tup [v, u])) := .new hp
  obtain ⟨r2, t2⟩ := Rr.putB o1 i1 r1 w1 (g2.trans g3) (p2.mono (.new hp))
  exact ⟨p, [v, u], rfl, .of upd_same, rfl, _, _, rfl, _, _, rfl, rfl, nd _ _ ⟨(t1.trans t2).g, fun a z => (t1.trans t2).own a (Own.cm z)⟩ (W.new w2 hp) (r2.cm (fun p : γ × (α × β) => ((p.1, p.2.1), p.2.2)) (g' := (g, (z0, z1))) rfl)⟩
end
end TC

namespace Law
open PySem PySem.Spec PyProof.Rows L2 TC
open Py (enc)
def topS (i : Nat) : Stmt := PySem.Challenge.pw_tidestold_k05_whole_known_lasting_sand_c.main.body.getD i (.Pass ⟨0, 0, 0, 0⟩)
abbrev s_all_spots : Stmt := topS 1
abbrev N_all_spots : List Str := ["sand", "x", "y"]
theorem sc_all_spots : FnScope N_all_spots ["sand"] (defScope s_all_spots) := ⟨rfl, rfl, rfl, by decide +kernel, rfl, by decide +kernel, by decide +kernel⟩
theorem ok_all_spots : okNames N_all_spots = true := by decide +kernel
def m_all_spots (x0 : (List (List Int))) : Option (Ls (Int × Int)) :=
  (((((pure x0) >>= fun v1 => (pure (0 : Int)) >>= fun v2 => MR.lift (atI v1 v2)) >>= fun v3 => pure (v3.length : Int)) >>= fun v4 => MR.lift (rngM 0 v4)) >>= fun xs11 => bindL (fun y5 => (pure true) >>= fun b14 => if b14 = true then (((pure x0) >>= fun v6 => pure (v6.length : Int)) >>= fun v7 => MR.lift (rngM 0 v7)) >>= fun zs13 => selL (fun y8 => (pure true)) (fun y8 => ((pure y5) >>= fun v9 => (pure y8) >>= fun v10 => pure (v9, v10))) zs13 else pure []) xs11 >>= fun ys12 => MR.lift (lenM ys12))
theorem fn_all_spots {P : Program} {w : World} {K : PySem.W.Frag} {mg : Str → Option Value} {base : Heap} {f_ : Addr} {fd : FuncData} (F : Fun K "all_spots" "all_spots" s_all_spots f_ fd) (b_len : mg "len" = none) (b_range : mg "range" = none)   : FnOk P w K mg base CX0 1 f_ fd ["sand"] (spD K 1 (M1 m_all_spots)) := by
  refine fn_D (k := 0) F sc_all_spots (γ := (List (List Int))) [.v (fun g => enc g), .u, .u] (fun g => m_all_spots g) _ rfl rfl ?_ ?_
  · rintro ds d ⟨x0, rfl, r, h, rfl⟩
    exact ⟨rfl, x0, r, (.v rfl (.u (.u .nil))), h, rfl⟩
  · intro cdv A outer s H E hr
    have hu := hr.units
    unfold m_all_spots
    exact (B_ret (E_cl (CL_lc2 [("x", 1), ("y", 2)] [2] rfl sc_all_spots.nd (blkOk_by (N := N_all_spots) (sc := (defScope s_all_spots)) (by decide +kernel)) (I_rng1 b_range rfl (fun _ _ => rfl) (E_lenT b_len rfl Rr.stb (fun _ _ => rfl) (E_ixT Rr.stb (E_v 0 ok_all_spots (.inl rfl) rfl (.inr (.inl rfl))) E_int))) (fun _ _ _ _ _ => (G_name 1 sc_all_spots.nd rfl (.inl rfl) (.inr rfl))) (by decide) OT.no (fun _ _ _ _ _ => (J_rng1 b_range rfl (fun _ _ => rfl) (E_lenT b_len rfl Rr.stb (fun _ _ => rfl) (E_v 0 ok_all_spots (.inl rfl) rfl (.inr (.inl rfl)))))) (fun _ _ _ _ _ => (G_name 2 sc_all_spots.nd rfl (.inl rfl) (.inr rfl))) (by decide) (by decide) OT.no (fun _ _ _ _ _ => (E_tup2 Rr.stb (fun _ _ => rfl) (fun _ _ => rfl) (E_v 1 ok_all_spots (.inl rfl) rfl (.inl rfl)) (E_v 2 ok_all_spots (.inl rfl) rfl (.inl rfl)))) (fun _ => rfl) (fun _ _ => rfl))))

abbrev s_near : Stmt := topS 2
abbrev N_near : List Str := ["sand", "spot", "x", "y", "found", "a", "b"]
theorem sc_near : FnScope N_near ["sand", "spot"] (defScope s_near) := ⟨rfl, rfl, rfl, by decide +kernel, rfl, by decide +kernel, by decide +kernel⟩
theorem ok_near : okNames N_near = true := by decide +kernel
def m_near (x0 : (List (List Int))) (x1 : (Int × Int)) : Option (Ls (Int × Int)) :=
  (pure x1) >>= fun d1 =>
  ((((pure d1.1) >>= fun v3 => (pure (1 : Int)) >>= fun v4 => pure (v3 - v4)) >>= fun v5 => (pure d1.2) >>= fun v6 => pure (v5, v6)) >>= fun v19 => ((pure d1.1) >>= fun v9 => ((pure d1.2) >>= fun v7 => (pure (1 : Int)) >>= fun v8 => pure (v7 - v8)) >>= fun v10 => pure (v9, v10)) >>= fun v20 => ((pure d1.1) >>= fun v13 => ((pure d1.2) >>= fun v11 => (pure (1 : Int)) >>= fun v12 => pure (v11 + v12)) >>= fun v14 => pure (v13, v14)) >>= fun v21 => (((pure d1.1) >>= fun v15 => (pure (1 : Int)) >>= fun v16 => pure (v15 + v16)) >>= fun v17 => (pure d1.2) >>= fun v18 => pure (v17, v18)) >>= fun v22 => pure (T4.mk v19 v20 v21 v22)) >>= fun d2 =>
  (((pure d2) >>= fun v23 => pure [v23.a, v23.b, v23.c, v23.d]) >>= fun xs39 => selL (fun y24 => (((pure (0 : Int)) >>= fun v30 => (pure y24.1) >>= fun v31 => if decide (v30 ≤ v31) = true then (((pure x0) >>= fun v27 => (pure (0 : Int)) >>= fun v28 => MR.lift (atI v27 v28)) >>= fun v29 => pure (v29.length : Int)) >>= fun v32 => pure (decide (v31 < v32)) else pure false) >>= fun v37 => if v37 = true then ((pure (0 : Int)) >>= fun v34 => (pure y24.2) >>= fun v35 => if decide (v34 ≤ v35) = true then ((pure x0) >>= fun v33 => pure (v33.length : Int)) >>= fun v36 => pure (decide (v35 < v36)) else pure false) else pure false)) (fun y24 => ((pure y24.1) >>= fun v25 => (pure y24.2) >>= fun v26 => pure (v25, v26))) xs39 >>= fun ys38 => pure (Ls.mk ys38))
theorem fn_near {P : Program} {w : World} {K : PySem.W.Frag} {mg : Str → Option Value} {base : Heap} {f_ : Addr} {fd : FuncData} (F : Fun K "near" "near" s_near f_ fd) (b_len : mg "len" = none)   : FnOk P w K mg base CX0 1 f_ fd ["sand", "spot"] (spD K 2 (M2 m_near)) := by
  refine fn_D (k := 0) F sc_near (γ := ((List (List Int)) × (Int × Int))) [.v (fun g => enc g.1), .v (fun g => enc g.2), .u, .u, .u, .u, .u] (fun g => m_near g.1 g.2) _ rfl rfl ?_ ?_
  · rintro ds d ⟨x0, x1, rfl, r, h, rfl⟩
    exact ⟨rfl, (x0, x1), r, (.v rfl (.v rfl (.u (.u (.u (.u (.u .nil))))))), h, rfl⟩
  · intro cdv A outer s H E hr
    have hu := hr.units
    unfold m_near
    exact (B_seq (S_asgT (E_v 1 ok_near (.inl rfl) rfl (.inl rfl)) (G_tup2 2 3 (fun t : (Int × Int) => enc t.1) (fun t : (Int × Int) => enc t.2) rfl sc_near.nd rfl rfl (.inl rfl) (.inl rfl) (.inl rfl) (.inl rfl)) rfl rfl rfl)
  (B_as [.v (fun g : (((List (List Int)) × (Int × Int)) × (Int × Int)) => enc g.1.1), .v (fun g : (((List (List Int)) × (Int × Int)) × (Int × Int)) => enc g.1.2), .v (fun g : (((List (List Int)) × (Int × Int)) × (Int × Int)) => enc g.2.1), .v (fun g : (((List (List Int)) × (Int × Int)) × (Int × Int)) => enc g.2.2), .u, .u, .u] rfl (by exact (B_seq (S_asg 4 (EV.f (E_tup4 Rr.stb (fun _ _ => rfl) (fun _ _ => rfl) (fun _ _ => rfl) (fun _ _ => rfl) (E_tup2 Rr.stb (fun _ _ => rfl) (fun _ _ => rfl) (E_sub Rr.stb (E_v 2 ok_near (.inl rfl) rfl (.inl rfl)) E_int) (E_v 3 ok_near (.inl rfl) rfl (.inl rfl))) (E_tup2 Rr.stb (fun _ _ => rfl) (fun _ _ => rfl) (E_v 2 ok_near (.inl rfl) rfl (.inl rfl)) (E_sub Rr.stb (E_v 3 ok_near (.inl rfl) rfl (.inl rfl)) E_int)) (E_tup2 Rr.stb (fun _ _ => rfl) (fun _ _ => rfl) (E_v 2 ok_near (.inl rfl) rfl (.inl rfl)) (E_add Rr.stb (E_v 3 ok_near (.inl rfl) rfl (.inl rfl)) E_int)) (E_tup2 Rr.stb (fun _ _ => rfl) (fun _ _ => rfl) (E_add Rr.stb (E_v 2 ok_near (.inl rfl) rfl (.inl rfl)) E_int) (E_v 3 ok_near (.inl rfl) rfl (.inl rfl))))) sc_near.nd rfl (.inl rfl) rfl rfl)
  (B_as [.v (fun g : ((((List (List Int)) × (Int × Int)) × (Int × Int)) × (T4 (Int × Int) (Int × Int) (Int × Int) (Int × Int))) => enc g.1.1.1), .v (fun g : ((((List (List Int)) × (Int × Int)) × (Int × Int)) × (T4 (Int × Int) (Int × Int) (Int × Int) (Int × Int))) => enc g.1.1.2), .v (fun g : ((((List (List Int)) × (Int × Int)) × (Int × Int)) × (T4 (Int × Int) (Int × Int) (Int × Int) (Int × Int))) => enc g.1.2.1), .v (fun g : ((((List (List Int)) × (Int × Int)) × (Int × Int)) × (T4 (Int × Int) (Int × Int) (Int × Int) (Int × Int))) => enc g.1.2.2), .v (fun g : ((((List (List Int)) × (Int × Int)) × (Int × Int)) × (T4 (Int × Int) (Int × Int) (Int × Int) (Int × Int))) => enc g.2), .u, .u] rfl (by exact (B_ret (E_cl (CL_lcIf [("a", 5), ("b", 6)] rfl sc_near.nd (blkOk_by (N := N_near) (sc := (defScope s_near)) (by decide +kernel)) (I_tup (E_as (fun t : (T4 (Int × Int) (Int × Int) (Int × Int) (Int × Int)) => [t.a, t.b, t.c, t.d]) (E_v 4 ok_near (.inl rfl) rfl (.inl rfl)))) (fun _ _ _ _ _ => (G_tup2 5 6 (fun t : (Int × Int) => enc t.1) (fun t : (Int × Int) => enc t.2) rfl sc_near.nd rfl rfl (.inl rfl) (.inl rfl) (.inr rfl) (.inr rfl))) (fun _ h => h) (fun _ _ _ _ _ => (TV.of_w (W_and Rr.stb (T_chain op_le op_lt Rr.stb E_int (E_v 5 ok_near (.inl rfl) rfl (.inl rfl)) (E_lenT b_len rfl Rr.stb (fun _ _ => rfl) (E_ixT Rr.stb (E_v 0 ok_near (.inl rfl) rfl (.inr (.inl rfl))) E_int))) (W_and1 (T_chain op_le op_lt Rr.stb E_int (E_v 6 ok_near (.inl rfl) rfl (.inl rfl)) (E_lenT b_len rfl Rr.stb (fun _ _ => rfl) (E_v 0 ok_near (.inl rfl) rfl (.inr (.inl rfl))))))))) (fun _ _ _ _ _ => (E_tup2 Rr.stb (fun _ _ => rfl) (fun _ _ => rfl) (E_v 5 ok_near (.inl rfl) rfl (.inl rfl)) (E_v 6 ok_near (.inl rfl) rfl (.inl rfl)))) (fun _ => rfl)))))) NdR.mono))) NdR.mono)

abbrev s_grains_at : Stmt := topS 3
abbrev N_grains_at : List Str := ["sand", "spot"]
theorem sc_grains_at : FnScope N_grains_at ["sand", "spot"] (defScope s_grains_at) := ⟨rfl, rfl, rfl, by decide +kernel, rfl, by decide +kernel, by decide +kernel⟩
theorem ok_grains_at : okNames N_grains_at = true := by decide +kernel
def m_grains_at (x0 : (List (List Int))) (x1 : (Int × Int)) : Option Int :=
  (((pure x0) >>= fun v2 => ((pure x1) >>= fun v1 => pure v1.2) >>= fun v3 => MR.lift (atI v2 v3)) >>= fun v5 => ((pure x1) >>= fun v4 => pure v4.1) >>= fun v6 => MR.lift (atI v5 v6))
theorem fn_grains_at {P : Program} {w : World} {K : PySem.W.Frag} {mg : Str → Option Value} {base : Heap} {f_ : Addr} {fd : FuncData} (F : Fun K "grains_at" "grains_at" s_grains_at f_ fd)    : FnOk P w K mg base CX0 1 f_ fd ["sand", "spot"] (spD K 2 (M2 m_grains_at)) := by
  refine fn_D (k := 0) F sc_grains_at (γ := ((List (List Int)) × (Int × Int))) [.v (fun g => enc g.1), .v (fun g => enc g.2)] (fun g => m_grains_at g.1 g.2) _ rfl rfl ?_ ?_
  · rintro ds d ⟨x0, x1, rfl, r, h, rfl⟩
    exact ⟨rfl, (x0, x1), r, (.v rfl (.v rfl .nil)), h, rfl⟩
  · intro cdv A outer s H E hr
    have hu := hr.units
    unfold m_grains_at
    exact (B_ret (EV.f (E_ixT Rr.stb (E_ixT Rr.stb (E_v 0 ok_grains_at (.inl rfl) rfl (.inl rfl)) (E_fld (fun t : (Int × Int) => t.2) 1 (E_v 1 ok_grains_at (.inl rfl) rfl (.inl rfl)))) (E_fld (fun t : (Int × Int) => t.1) 0 (E_v 1 ok_grains_at (.inl rfl) rfl (.inl rfl))))))

abbrev s_rests : Stmt := topS 4
abbrev N_rests : List Str := ["sand", "spot"]
theorem sc_rests : FnScope N_rests ["sand"] (defScope s_rests) := ⟨rfl, rfl, rfl, by decide +kernel, rfl, by decide +kernel, by decide +kernel⟩
theorem ok_rests : okNames N_rests = true := by decide +kernel
def m_rests (x0 : (List (List Int))) : Option Bool :=
  (((((pure x0) >>= fun v1 => MR.lift (m_all_spots v1)) >>= fun v2 => pure v2.l) >>= fun xs9 => mapL (fun y3 => (((pure x0) >>= fun v4 => (pure y3) >>= fun v5 => MR.lift (m_grains_at v4 v5)) >>= fun v6 => (pure (4 : Int)) >>= fun v7 => pure (decide (v6 < v7)))) xs9 >>= fun ys8 => pure (Ls.mk ys8)) >>= fun v10 => pure (v10.l.all id))
theorem fn_rests {P : Program} {w : World} {K : PySem.W.Frag} {mg : Str → Option Value} {base : Heap} {f_ : Addr} {fd : FuncData} (F : Fun K "rests" "rests" s_rests f_ fd) (b_all : mg "all" = none)  (D_all_spots : ∀ A : Around, Room 1 A → Dfn P w K mg base A "all_spots" 1 (M1 m_all_spots)) (D_grains_at : ∀ A : Around, Room 1 A → Dfn P w K mg base A "grains_at" 2 (M2 m_grains_at)) : FnOk P w K mg base CX0 2 f_ fd ["sand"] (spD K 1 (M1 m_rests)) := by
  refine fn_D (k := 1) F sc_rests (γ := (List (List Int))) [.v (fun g => enc g), .u] (fun g => m_rests g) _ rfl rfl ?_ ?_
  · rintro ds d ⟨x0, rfl, r, h, rfl⟩
    exact ⟨rfl, x0, r, (.v rfl (.u .nil)), h, rfl⟩
  · intro cdv A outer s H E hr
    have hu := hr.units
    have D_all_spots := D_all_spots _ hr
    have D_grains_at := D_grains_at _ hr
    unfold m_rests
    exact (B_ret (EV.f (E_allL b_all rfl rfl Rr.stb (fun _ _ => rfl) (EV.of_f (E_cl (CL_lc [("spot", 1)] rfl sc_rests.nd (blkOk_by (N := N_rests) (sc := (defScope s_rests)) (by decide +kernel)) (I_lst (E_call1 D_all_spots rfl rfl Rr.stb (fun _ _ => rfl) (E_v 0 ok_rests (.inl rfl) rfl (.inr (.inl rfl))))) (fun _ _ _ _ _ => (G_name 1 sc_rests.nd rfl (.inl rfl) (.inr rfl))) (fun _ h => h) (fun _ _ _ _ _ => (E_cmp (C_lt Rr.stb (E_callI2 D_grains_at rfl rfl Rr.stb (fun _ _ => rfl) (fun _ _ => rfl) (E_v 0 ok_rests (.inl rfl) rfl (.inr (.inl rfl))) (E_v 1 ok_rests (.inl rfl) rfl (.inl rfl))) E_int))) (fun _ => rfl)))))))

abbrev s_burnt : Stmt := topS 5
abbrev N_burnt : List Str := ["sand", "left", "out", "s", "own"]
theorem sc_burnt : FnScope N_burnt ["sand"] (defScope s_burnt) := ⟨rfl, rfl, rfl, by decide +kernel, rfl, by decide +kernel, by decide +kernel⟩
theorem ok_burnt : okNames N_burnt = true := by decide +kernel
def m_burnt (x0 : (List (List Int))) : Option (List (Int × Int)) :=
  (((pure x0) >>= fun v2 => MR.lift (m_all_spots v2)) >>= fun v6 => (((pure none) >>= fun v3 => (pure []) >>= fun v4 => pure (v3 :: v4)) >>= fun v5 => pure (Ls.mk v5)) >>= fun v7 => pure (v6, v7)) >>= fun d1 =>
  (whileM (fun d8 => ((pure d8.1) >>= fun v10 => ((pure []) >>= fun v9 => pure (Ls.mk v9)) >>= fun v11 => MR.lift (neM v10 v11))) (fun d8 =>
  ((pure d8.2.l) >>= fun xs29 => selL (fun y13 => (((pure x0) >>= fun v15 => (pure y13) >>= fun v16 => MR.lift (m_grains_at v15 v16)) >>= fun v26 => (((((pure x0) >>= fun v17 => (pure y13) >>= fun v18 => MR.lift (m_near v17 v18)) >>= fun v19 => pure v19.l) >>= fun xs24 => selL (fun y20 => ((pure y20) >>= fun v21 => (pure d8.2) >>= fun v22 => MR.lift (inM v21 v22.l))) (fun y20 => (pure y20)) xs24 >>= fun ys23 => pure (Ls.mk ys23)) >>= fun v25 => pure (v25.l.length : Int)) >>= fun v27 => pure (decide (v27 ≤ v26)))) (fun y13 => ((pure y13) >>= fun v14 => pure (some v14))) xs29 >>= fun ys28 => pure (Ls.mk ys28)) >>= fun d12 =>
  ((pure d8.2.l) >>= fun xs36 => selL (fun y31 => (((pure y31) >>= fun v32 => pure (some v32)) >>= fun v33 => (pure d12) >>= fun v34 => MR.lift (niM v33 v34.l))) (fun y31 => (pure y31)) xs36 >>= fun ys35 => pure (Ls.mk ys35)) >>= fun d30 =>
  (pure (d12, d30))) fuel (d1.2, d1.1)) >>= fun d37 =>
  ((pure d37.2) >>= fun v38 => pure v38.l)
theorem fn_burnt {P : Program} {w : World} {K : PySem.W.Frag} {mg : Str → Option Value} {base : Heap} {f_ : Addr} {fd : FuncData} (F : Fun K "burnt" "burnt" s_burnt f_ fd) (b_len : mg "len" = none) (b_tuple : mg "tuple" = none)  (D_all_spots : ∀ A : Around, Room 1 A → Dfn P w K mg base A "all_spots" 1 (M1 m_all_spots)) (D_grains_at : ∀ A : Around, Room 1 A → Dfn P w K mg base A "grains_at" 2 (M2 m_grains_at)) (D_near : ∀ A : Around, Room 1 A → Dfn P w K mg base A "near" 2 (M2 m_near)) : FnOk P w K mg base CX0 2 f_ fd ["sand"] (spD K 1 (M1 m_burnt)) := by
  refine fn_D (k := 1) F sc_burnt (γ := (List (List Int))) [.v (fun g => enc g), .u, .u, .u, .u] (fun g => m_burnt g) _ rfl rfl ?_ ?_
  · rintro ds d ⟨x0, rfl, r, h, rfl⟩
    exact ⟨rfl, x0, r, (.v rfl (.u (.u (.u (.u .nil))))), h, rfl⟩
  · intro cdv A outer s H E hr
    have hu := hr.units
    have D_all_spots := D_all_spots _ hr
    have D_grains_at := D_grains_at _ hr
    have D_near := D_near _ hr
    unfold m_burnt
    exact (B_seq (S_tup2B true true 1 2 (fun _ _ => rfl) (fun _ _ => rfl) (E_call1 D_all_spots rfl rfl Rr.stb (fun _ _ => rfl) (E_v 0 ok_burnt (.inl rfl) rfl (.inr (.inl rfl)))) (E_lst (α := (Option (Int × Int))) (H_cons Rr.stb (fun _ _ => rfl) E_none H_nil) (by decide)) rfl sc_burnt.nd rfl rfl (.inr rfl) (.inr rfl) (.inl rfl) (.inl rfl) rfl rfl rfl rfl rfl)
  (B_as [.v (fun g : ((List (List Int)) × ((Ls (Int × Int)) × (Ls (Option (Int × Int))))) => enc g.1), .o (fun g : ((List (List Int)) × ((Ls (Int × Int)) × (Ls (Option (Int × Int))))) => enc g.2.1), .o (fun g : ((List (List Int)) × ((Ls (Int × Int)) × (Ls (Option (Int × Int))))) => enc g.2.2), .u, .u] rfl (by exact (B_seq (S_while' (δ := ((Ls (Option (Int × Int))) × (Ls (Int × Int)))) (fun g : ((List (List Int)) × ((Ls (Int × Int)) × (Ls (Option (Int × Int))))) => (g.2.2, g.2.1)) fuel (ssL := [.v (fun g => enc g.1.1), .o (fun g => enc g.2.2), .o (fun g => enc g.2.1), .u, .u]) (.v (fun _ => rfl) (.o (fun _ => rfl) (.o (fun _ => rfl) (.u (.u .nil)))))
  (T_cmp (C_ne hu Rr.stb (E_v 2 ok_burnt (.inr rfl) rfl (.inr (.inl rfl))) (EV.of_f (E_lst (α := (Option (Int × Int))) H_nil (by decide)))))
  (B_seq (S_asgO 2 (E_cl (CL.le (ss' := [.v (fun g : (((List (List Int)) × ((Ls (Int × Int)) × (Ls (Option (Int × Int))))) × ((Ls (Option (Int × Int))) × (Ls (Int × Int)))) => enc g.1.1), .v (fun g : (((List (List Int)) × ((Ls (Int × Int)) × (Ls (Option (Int × Int))))) × ((Ls (Option (Int × Int))) × (Ls (Int × Int)))) => enc g.2.2), .v (fun g : (((List (List Int)) × ((Ls (Int × Int)) × (Ls (Option (Int × Int))))) × ((Ls (Option (Int × Int))) × (Ls (Int × Int)))) => enc g.2.1), .u, .u]) (.v (fun _ => rfl) (.ov (fun _ => rfl) (.ov (fun _ => rfl) (.u (.u .nil))))) (CL_lcIf [("s", 3)] rfl sc_burnt.nd (blkOk_by (N := N_burnt) (sc := (defScope s_burnt)) (by decide +kernel)) (I_v 1 ok_burnt rfl rfl (.inr (.inl rfl))) (fun _ _ _ _ _ => (G_name 3 sc_burnt.nd rfl (.inl rfl) (.inr rfl))) (fun _ h => h) (fun _ _ _ _ _ => (T_cmp (C_ge Rr.stb (E_callI2 D_grains_at rfl rfl Rr.stb (fun _ _ => rfl) (fun _ _ => rfl) (E_v 0 ok_burnt (.inl rfl) rfl (.inr (.inl rfl))) (E_v 3 ok_burnt (.inl rfl) rfl (.inl rfl))) (E_lenL b_len rfl Rr.stb (fun _ _ => rfl) (EV.of_f (E_cl (CL_lcIf [("own", 4)] rfl sc_burnt.nd (blkOk_by (N := N_burnt) (sc := (relS _ (defScope s_burnt))) (by decide +kernel)) (I_lst (E_call2 D_near rfl rfl Rr.stb (fun _ _ => rfl) (fun _ _ => rfl) (E_v 0 ok_burnt (.inl rfl) rfl (.inr (.inl rfl))) (E_v 3 ok_burnt (.inl rfl) rfl (.inl rfl)))) (fun _ _ _ _ _ => (G_name 4 sc_burnt.nd rfl (.inl rfl) (.inr rfl))) (fun _ h => h) (fun _ _ _ _ _ => (T_cmp (C_inL hu Rr.stb (E_v 4 ok_burnt (.inl rfl) rfl (.inl rfl)) (E_v 1 ok_burnt (.inl rfl) rfl (.inr (.inl rfl)))))) (fun _ _ _ _ _ => (E_v 4 ok_burnt (.inl rfl) rfl (.inl rfl))) (fun _ => rfl)))))))) (fun _ _ _ _ _ => (E_as some (E_v 3 ok_burnt (.inl rfl) rfl (.inl rfl)))) (fun _ => rfl)))) sc_burnt.nd rfl (.inr rfl) rfl rfl)
  (B_as [.v (fun g : ((((List (List Int)) × ((Ls (Int × Int)) × (Ls (Option (Int × Int))))) × ((Ls (Option (Int × Int))) × (Ls (Int × Int)))) × (Ls (Option (Int × Int)))) => enc g.1.1.1), .o (fun g : ((((List (List Int)) × ((Ls (Int × Int)) × (Ls (Option (Int × Int))))) × ((Ls (Option (Int × Int))) × (Ls (Int × Int)))) × (Ls (Option (Int × Int)))) => enc g.1.2.2), .o (fun g : ((((List (List Int)) × ((Ls (Int × Int)) × (Ls (Option (Int × Int))))) × ((Ls (Option (Int × Int))) × (Ls (Int × Int)))) × (Ls (Option (Int × Int)))) => enc g.2), .u, .u] rfl (by exact (B_seq (S_asgO 1 (E_cl (CL.le (ss' := [.v (fun g : ((((List (List Int)) × ((Ls (Int × Int)) × (Ls (Option (Int × Int))))) × ((Ls (Option (Int × Int))) × (Ls (Int × Int)))) × (Ls (Option (Int × Int)))) => enc g.1.1.1), .v (fun g : ((((List (List Int)) × ((Ls (Int × Int)) × (Ls (Option (Int × Int))))) × ((Ls (Option (Int × Int))) × (Ls (Int × Int)))) × (Ls (Option (Int × Int)))) => enc g.1.2.2), .v (fun g : ((((List (List Int)) × ((Ls (Int × Int)) × (Ls (Option (Int × Int))))) × ((Ls (Option (Int × Int))) × (Ls (Int × Int)))) × (Ls (Option (Int × Int)))) => enc g.2), .u, .u]) (.v (fun _ => rfl) (.ov (fun _ => rfl) (.ov (fun _ => rfl) (.u (.u .nil))))) (CL_lcIf [("s", 3)] rfl sc_burnt.nd (blkOk_by (N := N_burnt) (sc := (defScope s_burnt)) (by decide +kernel)) (I_v 1 ok_burnt rfl rfl (.inr (.inl rfl))) (fun _ _ _ _ _ => (G_name 3 sc_burnt.nd rfl (.inl rfl) (.inr rfl))) (fun _ h => h) (fun _ _ _ _ _ => (T_cmp (C_niL hu Rr.stb (E_as some (E_v 3 ok_burnt (.inl rfl) rfl (.inl rfl))) (E_v 2 ok_burnt (.inl rfl) rfl (.inr (.inl rfl)))))) (fun _ _ _ _ _ => (E_v 3 ok_burnt (.inl rfl) rfl (.inl rfl))) (fun _ => rfl)))) sc_burnt.nd rfl (.inr rfl) rfl rfl)
  (B_end (.v (fun _ => rfl) (.o (fun _ => rfl) (.o (fun _ => rfl) (.u (.u .nil)))))) NdN.mono))) NdN.mono) PassesOwn.never)
  (B_as [.v (fun g : (((List (List Int)) × ((Ls (Int × Int)) × (Ls (Option (Int × Int))))) × ((Ls (Option (Int × Int))) × (Ls (Int × Int)))) => enc g.1.1), .o (fun g : (((List (List Int)) × ((Ls (Int × Int)) × (Ls (Option (Int × Int))))) × ((Ls (Option (Int × Int))) × (Ls (Int × Int)))) => enc g.2.2), .o (fun g : (((List (List Int)) × ((Ls (Int × Int)) × (Ls (Option (Int × Int))))) × ((Ls (Option (Int × Int))) × (Ls (Int × Int)))) => enc g.2.1), .u, .u] rfl (by exact (B_ret (EV.f (E_tupleL b_tuple rfl Rr.stb (fun _ _ => rfl) (E_v 1 ok_burnt (.inr rfl) rfl (.inr (.inl rfl)))))))) NdR.mono))) NdR.mono)

abbrev s_is_lasting : Stmt := topS 6
abbrev N_is_lasting : List Str := ["sand"]
theorem sc_is_lasting : FnScope N_is_lasting ["sand"] (defScope s_is_lasting) := ⟨rfl, rfl, rfl, by decide +kernel, rfl, by decide +kernel, by decide +kernel⟩
theorem ok_is_lasting : okNames N_is_lasting = true := by decide +kernel
def m_is_lasting (x0 : (List (List Int))) : Option Bool :=
  (((pure x0) >>= fun v1 => MR.lift (m_rests v1)) >>= fun v5 => if v5 = true then (((pure x0) >>= fun v2 => MR.lift (m_burnt v2)) >>= fun v3 => (pure []) >>= fun v4 => MR.lift (eqM v3 v4)) else pure false)
theorem fn_is_lasting {P : Program} {w : World} {K : PySem.W.Frag} {mg : Str → Option Value} {base : Heap} {f_ : Addr} {fd : FuncData} (F : Fun K "is_lasting" "is_lasting" s_is_lasting f_ fd)   (D_burnt : ∀ A : Around, Room 2 A → Dfn P w K mg base A "burnt" 1 (M1 m_burnt)) (D_rests : ∀ A : Around, Room 2 A → Dfn P w K mg base A "rests" 1 (M1 m_rests)) : FnOk P w K mg base CX0 3 f_ fd ["sand"] (spD K 1 (M1 m_is_lasting)) := by
  refine fn_D (k := 2) F sc_is_lasting (γ := (List (List Int))) [.v (fun g => enc g)] (fun g => m_is_lasting g) _ rfl rfl ?_ ?_
  · rintro ds d ⟨x0, rfl, r, h, rfl⟩
    exact ⟨rfl, x0, r, (.v rfl .nil), h, rfl⟩
  · intro cdv A outer s H E hr
    have hu := hr.units
    have D_burnt := D_burnt _ hr
    have D_rests := D_rests _ hr
    unfold m_is_lasting
    exact (B_ret (EV.f (E_and Rr.stb (E_callI1 D_rests rfl rfl Rr.stb (fun _ _ => rfl) (E_v 0 ok_is_lasting (.inl rfl) rfl (.inl rfl))) (E_bone (E_cmp (C_eq hu Rr.stb (E_callI1 D_burnt rfl rfl Rr.stb (fun _ _ => rfl) (E_v 0 ok_is_lasting (.inl rfl) rfl (.inl rfl))) (E_tupL (α := (Int × Int)) H_nil (by decide))))))))

abbrev s__law_draws : Stmt := topS 8
abbrev N__law_draws : List Str := ["script", "many", "draws", "mixed", "k", "cell", "rest", "turn"]
theorem sc__law_draws : FnScope N__law_draws ["script", "many"] (defScope s__law_draws) := ⟨rfl, rfl, rfl, by decide +kernel, rfl, by decide +kernel, by decide +kernel⟩
theorem ok__law_draws : okNames N__law_draws = true := by decide +kernel
def m_draws (ns : List Int) (x0 : Int) : Option (Ls Int) :=
  ((pure []) >>= fun v2 => pure (Ls.mk v2)) >>= fun d1 =>
  (pure (7 : Int)) >>= fun d3 =>
  (((pure (ns.length : Int)) >>= fun v5 => MR.lift (rngM 0 v5)) >>= fun xs59 => foldM' (fun d4 y6 =>
  (((pure y6) >>= fun v8 => MR.lift (atI ns v8)) >>= fun v9 => pure (absI v9)) >>= fun d7 =>
  (((((pure d4.1) >>= fun v11 => (pure (48271 : Int)) >>= fun v12 => MR.lift (mulM v11 v12)) >>= fun v15 => ((pure d7) >>= fun v13 => (pure (1000003 : Int)) >>= fun v14 => MR.lift (modM v13 v14)) >>= fun v16 => pure (v15 + v16)) >>= fun v17 => (pure y6) >>= fun v18 => pure (v17 + v18)) >>= fun v19 => (pure (65537 : Int)) >>= fun v20 => MR.lift (modM v19 v20)) >>= fun d10 =>
  (pure (0 : Int)) >>= fun d21 =>
  (((pure d7) >>= fun v24 => ((pure (10 : Int)) >>= fun v22 => (pure (18 : Int)) >>= fun v23 => MR.lift (powM v22 v23)) >>= fun v25 => pure (decide (v25 ≤ v24))) >>= fun b26 => if b26 = true then (pure d7) >>= fun d27 =>
  (pure (d27, d4.2)) else (((pure d7) >>= fun v30 => (pure (997 : Int)) >>= fun v31 => MR.lift (modM v30 v31)) >>= fun v29 => MR.lift (appM d4.2 v29)) >>= fun d28 =>
  ((((((pure d10) >>= fun v34 => (pure (69621 : Int)) >>= fun v35 => MR.lift (mulM v34 v35)) >>= fun v36 => (pure (5 : Int)) >>= fun v37 => pure (v36 + v37)) >>= fun v38 => (pure (65521 : Int)) >>= fun v39 => MR.lift (modM v38 v39)) >>= fun v40 => (pure (997 : Int)) >>= fun v41 => MR.lift (modM v40 v41)) >>= fun v33 => MR.lift (appM d28 v33)) >>= fun d32 =>
  (pure (d21, d32))) >>= fun d42 =>
  (((pure (60 : Int)) >>= fun v44 => MR.lift (rngM 0 v44)) >>= fun xs57 => foldM' (fun d43 y45 =>
  (((pure d43.2) >>= fun v46 => (pure (0 : Int)) >>= fun v47 => pure (decide (v47 < v46))) >>= fun b48 => if b48 = true then (((pure d43.2) >>= fun v51 => (pure (997 : Int)) >>= fun v52 => MR.lift (modM v51 v52)) >>= fun v50 => MR.lift (appM d43.1 v50)) >>= fun d49 =>
  ((pure d43.2) >>= fun v54 => (pure (997 : Int)) >>= fun v55 => MR.lift (divM v54 v55)) >>= fun d53 =>
  (pure (d49, d53)) else (pure (d43.1, d43.2))) >>= fun d56 =>
  (pure (d56.1, d56.2))) (d42.2, d42.1) xs57) >>= fun d58 =>
  (pure (d10, d58.1))) (d3, d1) xs59) >>= fun d60 =>
  (((pure x0) >>= fun v62 => MR.lift (rngM 0 v62)) >>= fun xs77 => foldM' (fun d61 y63 =>
  (((((pure d61.1) >>= fun v65 => (pure (16807 : Int)) >>= fun v66 => MR.lift (mulM v65 v66)) >>= fun v67 => (pure y63) >>= fun v68 => pure (v67 + v68)) >>= fun v69 => (pure (1 : Int)) >>= fun v70 => pure (v69 + v70)) >>= fun v71 => (pure (65537 : Int)) >>= fun v72 => MR.lift (modM v71 v72)) >>= fun d64 =>
  (((pure d64) >>= fun v75 => (pure (997 : Int)) >>= fun v76 => MR.lift (modM v75 v76)) >>= fun v74 => MR.lift (appM d61.2 v74)) >>= fun d73 =>
  (pure (d64, d73))) (d60.1, d60.2) xs77) >>= fun d78 =>
  ((pure d78.2) >>= fun v80 => (pure none) >>= fun v81 => ((pure x0) >>= fun v79 => pure (some v79)) >>= fun v82 => pure (Ls.mk (cutL v80.l v81 v82)))
theorem fn_draws {P : Program} {w : World} {K : PySem.W.Frag} {mg : Str → Option Value} {base : Heap} {f_ : Addr} {fd : FuncData} (F : Fun K "_law_draws" "_law_draws" s__law_draws f_ fd) (b_abs : mg "abs" = none) (b_int : mg "int" = none) (b_len : mg "len" = none) (b_range : mg "range" = none) : FnOk P w K mg base CX0 1 f_ fd ["script", "many"] (spDr K m_draws) := by
  refine fn_Dr (k := 0) F sc__law_draws 6 rfl rfl m_draws ?_
  intro a ns cdv A outer s H E hr hS
  have hu := hr.units
  have nA : ¬ W0.Av a := fun z => z
  unfold m_draws
  exact (B_seq (S_asgO 2 (E_lst (α := Int) H_nil (by decide)) sc__law_draws.nd rfl (.inl rfl) rfl rfl)
  (B_as [.k (.ref a), .v (fun g : (Int × (Ls Int)) => enc g.1), .o (fun g : (Int × (Ls Int)) => enc g.2), .u, .u, .u, .u, .u] rfl (by exact (B_seq (S_asg 3 (EV.f E_int) sc__law_draws.nd rfl (.inl rfl) rfl rfl)
  (B_as [.k (.ref a), .v (fun g : ((Int × (Ls Int)) × Int) => enc g.1.1), .o (fun g : ((Int × (Ls Int)) × Int) => enc g.1.2), .v (fun g : ((Int × (Ls Int)) × Int) => enc g.2), .u, .u, .u, .u] rfl (by exact (B_seq (S_for' (δ := (Int × (Ls Int))) (fun g : ((Int × (Ls Int)) × Int) => (g.2, g.1.2)) (ssL := [.k (.ref a), .v (fun g => enc g.1.1.1), .o (fun g => enc g.2.2), .v (fun g => enc g.2.1), .u, .u, .u, .u]) (.k (.v (fun _ => rfl) (.o (fun _ => rfl) (.v (fun _ => rfl) (.u (.u (.u (.u .nil))))))))
  (I_rng1 b_range rfl (fun _ _ => rfl) (E_scLen (i := 0) ok__law_draws hS nA rfl rfl (.inl rfl) b_len rfl)) (G_name 4 sc__law_draws.nd rfl (.inl rfl) (.inl rfl))
  (B_seq (S_asg 5 (EV.f (E_abs b_abs rfl rfl Rr.stb (fun _ _ => rfl) (E_intI b_int rfl Rr.stb (fun _ _ => rfl) (E_scIx (i := 0) ok__law_draws hS nA rfl rfl (.inl rfl) (E_v 4 ok__law_draws (.inl rfl) rfl (.inl rfl)))))) sc__law_draws.nd rfl (.inl rfl) rfl rfl)
  (B_as [.k (.ref a), .v (fun g : (((((Int × (Ls Int)) × Int) × (Int × (Ls Int))) × Int) × Int) => enc g.1.1.1.1.1), .o (fun g : (((((Int × (Ls Int)) × Int) × (Int × (Ls Int))) × Int) × Int) => enc g.1.1.2.2), .v (fun g : (((((Int × (Ls Int)) × Int) × (Int × (Ls Int))) × Int) × Int) => enc g.1.1.2.1), .v (fun g : (((((Int × (Ls Int)) × Int) × (Int × (Ls Int))) × Int) × Int) => enc g.1.2), .v (fun g : (((((Int × (Ls Int)) × Int) × (Int × (Ls Int))) × Int) × Int) => enc g.2), .u, .u] rfl (by exact (B_seq (S_asg 3 (EV.f (E_mod Rr.stb (E_intI b_int rfl Rr.stb (fun _ _ => rfl) (E_add Rr.stb (E_add Rr.stb (E_mul Rr.stb (E_v 3 ok__law_draws (.inl rfl) rfl (.inl rfl)) E_int) (E_mod Rr.stb (E_v 5 ok__law_draws (.inl rfl) rfl (.inl rfl)) E_int)) (E_v 4 ok__law_draws (.inl rfl) rfl (.inl rfl)))) E_int)) sc__law_draws.nd rfl (.inl rfl) rfl rfl)
  (B_as [.k (.ref a), .v (fun g : ((((((Int × (Ls Int)) × Int) × (Int × (Ls Int))) × Int) × Int) × Int) => enc g.1.1.1.1.1.1), .o (fun g : ((((((Int × (Ls Int)) × Int) × (Int × (Ls Int))) × Int) × Int) × Int) => enc g.1.1.1.2.2), .v (fun g : ((((((Int × (Ls Int)) × Int) × (Int × (Ls Int))) × Int) × Int) × Int) => enc g.2), .v (fun g : ((((((Int × (Ls Int)) × Int) × (Int × (Ls Int))) × Int) × Int) × Int) => enc g.1.1.2), .v (fun g : ((((((Int × (Ls Int)) × Int) × (Int × (Ls Int))) × Int) × Int) × Int) => enc g.1.2), .u, .u] rfl (by exact (B_seq (S_asg 6 (EV.f E_int) sc__law_draws.nd rfl (.inl rfl) rfl rfl)
  (B_as [.k (.ref a), .v (fun g : (((((((Int × (Ls Int)) × Int) × (Int × (Ls Int))) × Int) × Int) × Int) × Int) => enc g.1.1.1.1.1.1.1), .o (fun g : (((((((Int × (Ls Int)) × Int) × (Int × (Ls Int))) × Int) × Int) × Int) × Int) => enc g.1.1.1.1.2.2), .v (fun g : (((((((Int × (Ls Int)) × Int) × (Int × (Ls Int))) × Int) × Int) × Int) × Int) => enc g.1.2), .v (fun g : (((((((Int × (Ls Int)) × Int) × (Int × (Ls Int))) × Int) × Int) × Int) × Int) => enc g.1.1.1.2), .v (fun g : (((((((Int × (Ls Int)) × Int) × (Int × (Ls Int))) × Int) × Int) × Int) × Int) => enc g.1.1.2), .v (fun g : (((((((Int × (Ls Int)) × Int) × (Int × (Ls Int))) × Int) × Int) × Int) × Int) => enc g.2), .u] rfl (by exact (B_seq (S_if (δ := (Int × (Ls Int))) (ss' := [.k (.ref a), .v (fun g => enc g.1.1.1.1.1.1.1.1), .o (fun g => enc g.2.2), .v (fun g => enc g.1.1.2), .v (fun g => enc g.1.1.1.1.2), .v (fun g => enc g.1.1.1.2), .v (fun g => enc g.2.1), .u]) (T_cmp (C_ge Rr.stb (E_v 5 ok__law_draws (.inl rfl) rfl (.inl rfl)) (E_pow Rr.stb E_int E_int)))
  (B_seq (S_asg 6 (EV.f (E_v 5 ok__law_draws (.inl rfl) rfl (.inl rfl))) sc__law_draws.nd rfl (.inl rfl) rfl rfl)
  (B_end (.k (.v (fun _ => rfl) (.o (fun _ => rfl) (.v (fun _ => rfl) (.v (fun _ => rfl) (.v (fun _ => rfl) (.v (fun _ => rfl) (.u .nil))))))))) NdN.mono)
  (B_seq (S_app 2 ok__law_draws rfl (fun _ _ => rfl) (E_mod Rr.stb (E_intI b_int rfl Rr.stb (fun _ _ => rfl) (E_v 5 ok__law_draws (.inl rfl) rfl (.inl rfl))) E_int) rfl (.inl rfl) rfl rfl rfl)
  (B_as [.k (.ref a), .v (fun g : ((((((((Int × (Ls Int)) × Int) × (Int × (Ls Int))) × Int) × Int) × Int) × Int) × (Ls Int)) => enc g.1.1.1.1.1.1.1.1), .o (fun g : ((((((((Int × (Ls Int)) × Int) × (Int × (Ls Int))) × Int) × Int) × Int) × Int) × (Ls Int)) => enc g.2), .v (fun g : ((((((((Int × (Ls Int)) × Int) × (Int × (Ls Int))) × Int) × Int) × Int) × Int) × (Ls Int)) => enc g.1.1.2), .v (fun g : ((((((((Int × (Ls Int)) × Int) × (Int × (Ls Int))) × Int) × Int) × Int) × Int) × (Ls Int)) => enc g.1.1.1.1.2), .v (fun g : ((((((((Int × (Ls Int)) × Int) × (Int × (Ls Int))) × Int) × Int) × Int) × Int) × (Ls Int)) => enc g.1.1.1.2), .v (fun g : ((((((((Int × (Ls Int)) × Int) × (Int × (Ls Int))) × Int) × Int) × Int) × Int) × (Ls Int)) => enc g.1.2), .u] rfl (by exact (B_seq (S_app 2 ok__law_draws rfl (fun _ _ => rfl) (E_mod Rr.stb (E_mod Rr.stb (E_intI b_int rfl Rr.stb (fun _ _ => rfl) (E_add Rr.stb (E_mul Rr.stb (E_v 3 ok__law_draws (.inl rfl) rfl (.inl rfl)) E_int) E_int)) E_int) E_int) rfl (.inl rfl) rfl rfl rfl)
  (B_end (.k (.v (fun _ => rfl) (.o (fun _ => rfl) (.v (fun _ => rfl) (.v (fun _ => rfl) (.v (fun _ => rfl) (.v (fun _ => rfl) (.u .nil))))))))) NdN.mono))) NdN.mono))
  (B_as [.k (.ref a), .v (fun g : ((((((((Int × (Ls Int)) × Int) × (Int × (Ls Int))) × Int) × Int) × Int) × Int) × (Int × (Ls Int))) => enc g.1.1.1.1.1.1.1.1), .o (fun g : ((((((((Int × (Ls Int)) × Int) × (Int × (Ls Int))) × Int) × Int) × Int) × Int) × (Int × (Ls Int))) => enc g.2.2), .v (fun g : ((((((((Int × (Ls Int)) × Int) × (Int × (Ls Int))) × Int) × Int) × Int) × Int) × (Int × (Ls Int))) => enc g.1.1.2), .v (fun g : ((((((((Int × (Ls Int)) × Int) × (Int × (Ls Int))) × Int) × Int) × Int) × Int) × (Int × (Ls Int))) => enc g.1.1.1.1.2), .v (fun g : ((((((((Int × (Ls Int)) × Int) × (Int × (Ls Int))) × Int) × Int) × Int) × Int) × (Int × (Ls Int))) => enc g.1.1.1.2), .v (fun g : ((((((((Int × (Ls Int)) × Int) × (Int × (Ls Int))) × Int) × Int) × Int) × Int) × (Int × (Ls Int))) => enc g.2.1), .u] rfl (by exact (B_seq (S_for' (δ := ((Ls Int) × Int)) (fun g : ((((((((Int × (Ls Int)) × Int) × (Int × (Ls Int))) × Int) × Int) × Int) × Int) × (Int × (Ls Int))) => (g.2.2, g.2.1)) (ssL := [.k (.ref a), .v (fun g => enc g.1.1.1.1.1.1.1.1.1), .o (fun g => enc g.2.1), .v (fun g => enc g.1.1.1.2), .v (fun g => enc g.1.1.1.1.1.2), .v (fun g => enc g.1.1.1.1.2), .v (fun g => enc g.2.2), .u]) (.k (.v (fun _ => rfl) (.o (fun _ => rfl) (.v (fun _ => rfl) (.v (fun _ => rfl) (.v (fun _ => rfl) (.v (fun _ => rfl) (.u .nil))))))))
  (I_rng1 b_range rfl (fun _ _ => rfl) E_int) (G_name 7 sc__law_draws.nd rfl (.inl rfl) (.inl rfl))
  (B_seq (S_if (δ := ((Ls Int) × Int)) (ss' := [.k (.ref a), .v (fun g => enc g.1.1.1.1.1.1.1.1.1.1.1), .o (fun g => enc g.2.1), .v (fun g => enc g.1.1.1.1.1.2), .v (fun g => enc g.1.1.1.1.1.1.1.2), .v (fun g => enc g.1.1.1.1.1.1.2), .v (fun g => enc g.2.2), .v (fun g => enc g.1.2)]) (T_cmp (C_gt Rr.stb (E_v 6 ok__law_draws (.inl rfl) rfl (.inl rfl)) E_int))
  (B_seq (S_app 2 ok__law_draws rfl (fun _ _ => rfl) (E_mod Rr.stb (E_intI b_int rfl Rr.stb (fun _ _ => rfl) (E_v 6 ok__law_draws (.inl rfl) rfl (.inl rfl))) E_int) rfl (.inl rfl) rfl rfl rfl)
  (B_as [.k (.ref a), .v (fun g : (((((((((((Int × (Ls Int)) × Int) × (Int × (Ls Int))) × Int) × Int) × Int) × Int) × (Int × (Ls Int))) × ((Ls Int) × Int)) × Int) × (Ls Int)) => enc g.1.1.1.1.1.1.1.1.1.1.1), .o (fun g : (((((((((((Int × (Ls Int)) × Int) × (Int × (Ls Int))) × Int) × Int) × Int) × Int) × (Int × (Ls Int))) × ((Ls Int) × Int)) × Int) × (Ls Int)) => enc g.2), .v (fun g : (((((((((((Int × (Ls Int)) × Int) × (Int × (Ls Int))) × Int) × Int) × Int) × Int) × (Int × (Ls Int))) × ((Ls Int) × Int)) × Int) × (Ls Int)) => enc g.1.1.1.1.1.2), .v (fun g : (((((((((((Int × (Ls Int)) × Int) × (Int × (Ls Int))) × Int) × Int) × Int) × Int) × (Int × (Ls Int))) × ((Ls Int) × Int)) × Int) × (Ls Int)) => enc g.1.1.1.1.1.1.1.2), .v (fun g : (((((((((((Int × (Ls Int)) × Int) × (Int × (Ls Int))) × Int) × Int) × Int) × Int) × (Int × (Ls Int))) × ((Ls Int) × Int)) × Int) × (Ls Int)) => enc g.1.1.1.1.1.1.2), .v (fun g : (((((((((((Int × (Ls Int)) × Int) × (Int × (Ls Int))) × Int) × Int) × Int) × Int) × (Int × (Ls Int))) × ((Ls Int) × Int)) × Int) × (Ls Int)) => enc g.1.1.2.2), .v (fun g : (((((((((((Int × (Ls Int)) × Int) × (Int × (Ls Int))) × Int) × Int) × Int) × Int) × (Int × (Ls Int))) × ((Ls Int) × Int)) × Int) × (Ls Int)) => enc g.1.2)] rfl (by exact (B_seq (S_asg 6 (EV.f (E_div Rr.stb (E_v 6 ok__law_draws (.inl rfl) rfl (.inl rfl)) E_int)) sc__law_draws.nd rfl (.inl rfl) rfl rfl)
  (B_end (.k (.v (fun _ => rfl) (.o (fun _ => rfl) (.v (fun _ => rfl) (.v (fun _ => rfl) (.v (fun _ => rfl) (.v (fun _ => rfl) (.v (fun _ => rfl) .nil))))))))) NdN.mono))) NdN.mono)
  (B_end (.k (.v (fun _ => rfl) (.o (fun _ => rfl) (.v (fun _ => rfl) (.v (fun _ => rfl) (.v (fun _ => rfl) (.v (fun _ => rfl) (.v (fun _ => rfl) .nil))))))))))
  (B_end (.k (.v (fun _ => rfl) (.o (fun _ => rfl) (.v (fun _ => rfl) (.v (fun _ => rfl) (.v (fun _ => rfl) (.v (fun _ => rfl) (.u .nil))))))))) NdN.mono) rfl PassesOwn.never (fun _ => rfl))
  (B_end (.k (.v (fun _ => rfl) (.o (fun _ => rfl) (.v (fun _ => rfl) (.u (.u (.u (.u .nil))))))))) NdN.mono))) NdN.mono))) NdN.mono))) NdN.mono))) NdN.mono) rfl PassesOwn.never (fun _ => rfl))
  (B_as [.k (.ref a), .v (fun g : (((Int × (Ls Int)) × Int) × (Int × (Ls Int))) => enc g.1.1.1), .o (fun g : (((Int × (Ls Int)) × Int) × (Int × (Ls Int))) => enc g.2.2), .v (fun g : (((Int × (Ls Int)) × Int) × (Int × (Ls Int))) => enc g.2.1), .u, .u, .u, .u] rfl (by exact (B_seq (S_for' (δ := (Int × (Ls Int))) (fun g : (((Int × (Ls Int)) × Int) × (Int × (Ls Int))) => (g.2.1, g.2.2)) (ssL := [.k (.ref a), .v (fun g => enc g.1.1.1.1), .o (fun g => enc g.2.2), .v (fun g => enc g.2.1), .u, .u, .u, .u]) (.k (.v (fun _ => rfl) (.o (fun _ => rfl) (.v (fun _ => rfl) (.u (.u (.u (.u .nil))))))))
  (I_rng1 b_range rfl (fun _ _ => rfl) (E_v 1 ok__law_draws (.inl rfl) rfl (.inl rfl))) (G_name 4 sc__law_draws.nd rfl (.inl rfl) (.inl rfl))
  (B_seq (S_asg 3 (EV.f (E_mod Rr.stb (E_intI b_int rfl Rr.stb (fun _ _ => rfl) (E_add Rr.stb (E_add Rr.stb (E_mul Rr.stb (E_v 3 ok__law_draws (.inl rfl) rfl (.inl rfl)) E_int) (E_v 4 ok__law_draws (.inl rfl) rfl (.inl rfl))) E_int)) E_int)) sc__law_draws.nd rfl (.inl rfl) rfl rfl)
  (B_as [.k (.ref a), .v (fun g : ((((((Int × (Ls Int)) × Int) × (Int × (Ls Int))) × (Int × (Ls Int))) × Int) × Int) => enc g.1.1.1.1.1.1), .o (fun g : ((((((Int × (Ls Int)) × Int) × (Int × (Ls Int))) × (Int × (Ls Int))) × Int) × Int) => enc g.1.1.2.2), .v (fun g : ((((((Int × (Ls Int)) × Int) × (Int × (Ls Int))) × (Int × (Ls Int))) × Int) × Int) => enc g.2), .v (fun g : ((((((Int × (Ls Int)) × Int) × (Int × (Ls Int))) × (Int × (Ls Int))) × Int) × Int) => enc g.1.2), .u, .u, .u] rfl (by exact (B_seq (S_app 2 ok__law_draws rfl (fun _ _ => rfl) (E_mod Rr.stb (E_intI b_int rfl Rr.stb (fun _ _ => rfl) (E_v 3 ok__law_draws (.inl rfl) rfl (.inl rfl))) E_int) rfl (.inl rfl) rfl rfl rfl)
  (B_end (.k (.v (fun _ => rfl) (.o (fun _ => rfl) (.v (fun _ => rfl) (.u (.u (.u (.u .nil))))))))) NdN.mono))) NdN.mono) rfl PassesOwn.never (fun _ => rfl))
  (B_as [.k (.ref a), .v (fun g : ((((Int × (Ls Int)) × Int) × (Int × (Ls Int))) × (Int × (Ls Int))) => enc g.1.1.1.1), .o (fun g : ((((Int × (Ls Int)) × Int) × (Int × (Ls Int))) × (Int × (Ls Int))) => enc g.2.2), .v (fun g : ((((Int × (Ls Int)) × Int) × (Int × (Ls Int))) × (Int × (Ls Int))) => enc g.2.1), .u, .u, .u, .u] rfl (by exact (B_ret (E_slL Rr.stb (E_v 2 ok__law_draws (.inr rfl) rfl (.inl rfl)) P_none (P_some (E_v 1 ok__law_draws (.inl rfl) rfl (.inl rfl))))))) NdR.mono))) NdR.mono))) NdR.mono))) NdR.mono)

abbrev s__law_holds : Stmt := topS 10
abbrev N__law_holds : List Str := ["w", "many", "k", "sand", "row"]
theorem sc__law_holds : FnScope N__law_holds ["w"] (defScope s__law_holds) := ⟨rfl, rfl, rfl, by decide +kernel, rfl, by decide +kernel, by decide +kernel⟩
theorem ok__law_holds : okNames N__law_holds = true := by decide +kernel
def m_holds (ds : List Int) : SM Int Bool :=
  (pure (0 : Int)) >>= fun d1 =>
  (((pure (256 : Int)) >>= fun v3 => MR.lift (rngM 0 v3)) >>= fun xs37 => foldM' (fun d2 y4 =>
  ((((pure y4) >>= fun v6 => (pure (3 : Int)) >>= fun v7 => MR.lift (bandM v6 v7)) >>= fun v14 => ((((pure y4) >>= fun v8 => (pure (2 : Int)) >>= fun v9 => MR.lift (shrM v8 v9)) >>= fun v10 => (pure (3 : Int)) >>= fun v11 => MR.lift (bandM v10 v11)) >>= fun v12 => (pure []) >>= fun v13 => pure (v12 :: v13)) >>= fun v15 => pure (v14 :: v15)) >>= fun v30 => (((((pure y4) >>= fun v16 => (pure (4 : Int)) >>= fun v17 => MR.lift (shrM v16 v17)) >>= fun v18 => (pure (3 : Int)) >>= fun v19 => MR.lift (bandM v18 v19)) >>= fun v26 => ((((pure y4) >>= fun v20 => (pure (6 : Int)) >>= fun v21 => MR.lift (shrM v20 v21)) >>= fun v22 => (pure (3 : Int)) >>= fun v23 => MR.lift (bandM v22 v23)) >>= fun v24 => (pure []) >>= fun v25 => pure (v24 :: v25)) >>= fun v27 => pure (v26 :: v27)) >>= fun v28 => (pure []) >>= fun v29 => pure (v28 :: v29)) >>= fun v31 => pure (v30 :: v31)) >>= fun d5 =>
  (((pure d5) >>= fun v32 => MR.lift (m_is_lasting v32)) >>= fun b33 => if b33 = true then ((pure (1 : Int)) >>= fun v34 => pure (d2 + v34)) >>= fun d35 =>
  (pure d35) else (pure d2)) >>= fun d36 =>
  (pure d36)) d1 xs37) >>= fun d38 =>
  (((pure d38) >>= fun v39 => (pure (192 : Int)) >>= fun v40 => MR.lift (neM v39 v40)) >>= fun b41 => if b41 = true then (pure false) else
  (((pure (16 : Int)) >>= fun v43 => MR.lift (rngM 0 v43)) >>= fun xs59 => selL (fun y44 => (((((pure y44) >>= fun v45 => (pure (3 : Int)) >>= fun v46 => MR.lift (bandM v45 v46)) >>= fun v53 => ((((pure y44) >>= fun v47 => (pure (2 : Int)) >>= fun v48 => MR.lift (shrM v47 v48)) >>= fun v49 => (pure (3 : Int)) >>= fun v50 => MR.lift (bandM v49 v50)) >>= fun v51 => (pure []) >>= fun v52 => pure (v51 :: v52)) >>= fun v54 => pure (v53 :: v54)) >>= fun v55 => (pure []) >>= fun v56 => pure (v55 :: v56)) >>= fun v57 => MR.lift (m_is_lasting v57))) (fun y44 => (pure y44)) xs59 >>= fun ys58 => pure (Ls.mk ys58)) >>= fun d42 =>
  ((((pure d42) >>= fun v60 => pure (v60.l.length : Int)) >>= fun v61 => (pure (15 : Int)) >>= fun v62 => MR.lift (eqM v61 v62)) >>= fun v78 => if v78 = true then (((((pure (3 : Int)) >>= fun v65 => ((pure (3 : Int)) >>= fun v63 => (pure []) >>= fun v64 => pure (v63 :: v64)) >>= fun v66 => pure (v65 :: v66)) >>= fun v73 => (((pure (3 : Int)) >>= fun v69 => ((pure (3 : Int)) >>= fun v67 => (pure []) >>= fun v68 => pure (v67 :: v68)) >>= fun v70 => pure (v69 :: v70)) >>= fun v71 => (pure []) >>= fun v72 => pure (v71 :: v72)) >>= fun v74 => pure (v73 :: v74)) >>= fun v75 => MR.lift (m_burnt v75)) >>= fun v76 => (pure []) >>= fun v77 => MR.lift (eqM v76 v77)) else pure false))
theorem fn_holds {P : Program} {w : World} {K : PySem.W.Frag} {mg : Str → Option Value} {base : Heap} {f_ : Addr} {fd : FuncData} (F : Fun K "_law_holds" "_law_holds" s__law_holds f_ fd) (b_len : mg "len" = none) (b_range : mg "range" = none) (D_burnt : ∀ A : Around, Room 3 A → Dfn P w K mg base A "burnt" 1 (M1 m_burnt)) (D_is_lasting : ∀ A : Around, Room 3 A → Dfn P w K mg base A "is_lasting" 1 (M1 m_is_lasting)) (D_next : ∀ A : Around, Room 3 A → DfnN P w K mg base A) : FnOk P w K mg base CX0 4 f_ fd ["w"] (spH m_holds) := by
  refine fn_H (k := 3) F sc__law_holds m_holds rfl ?_
  intro a D ds cdv A outer s H E hr
  have hu := hr.units
  have D_burnt := D_burnt _ hr
  have D_is_lasting := D_is_lasting _ hr
  have D_next := D_next _ hr
  unfold m_holds
  exact (B_seq (S_asg 1 (EV.f E_int) sc__law_holds.nd rfl (.inl rfl) rfl rfl)
  (B_as [.k (.ref a), .v (fun g : (Unit × Int) => enc g.2), .u, .u, .u] rfl (by exact (B_seq (S_for' (δ := Int) (fun g : (Unit × Int) => g.2) (ssL := [.k (.ref a), .v (fun g => enc g.2), .u, .u, .u]) (.k (.v (fun _ => rfl) (.u (.u (.u .nil)))))
  (I_rng1 b_range rfl (fun _ _ => rfl) E_int) (G_name 2 sc__law_holds.nd rfl (.inl rfl) (.inl rfl))
  (B_seq (S_asg 3 (EV.f (E_tupL (α := (List Int)) (H_cons Rr.stb (fun _ _ => rfl) (E_tupL (α := Int) (H_cons Rr.stb (fun _ _ => rfl) (E_band Rr.stb (E_v 2 ok__law_holds (.inl rfl) rfl (.inl rfl)) E_int) (H_cons Rr.stb (fun _ _ => rfl) (E_band Rr.stb (E_shr Rr.stb (E_v 2 ok__law_holds (.inl rfl) rfl (.inl rfl)) E_int) E_int) H_nil)) (by decide)) (H_cons Rr.stb (fun _ _ => rfl) (E_tupL (α := Int) (H_cons Rr.stb (fun _ _ => rfl) (E_band Rr.stb (E_shr Rr.stb (E_v 2 ok__law_holds (.inl rfl) rfl (.inl rfl)) E_int) E_int) (H_cons Rr.stb (fun _ _ => rfl) (E_band Rr.stb (E_shr Rr.stb (E_v 2 ok__law_holds (.inl rfl) rfl (.inl rfl)) E_int) E_int) H_nil)) (by decide)) H_nil)) (by decide))) sc__law_holds.nd rfl (.inl rfl) rfl rfl)
  (B_as [.k (.ref a), .v (fun g : ((((Unit × Int) × Int) × Int) × (List (List Int))) => enc g.1.1.2), .v (fun g : ((((Unit × Int) × Int) × Int) × (List (List Int))) => enc g.1.2), .v (fun g : ((((Unit × Int) × Int) × Int) × (List (List Int))) => enc g.2), .u] rfl (by exact (B_seq (S_if (δ := Int) (ss' := [.k (.ref a), .v (fun g => enc g.2), .v (fun g => enc g.1.1.2), .v (fun g => enc g.1.2), .u]) (T_val (E_callI1 D_is_lasting rfl rfl Rr.stb (fun _ _ => rfl) (E_v 3 ok__law_holds (.inl rfl) rfl (.inl rfl))))
  (B_seq (S_augI ip_add 1 rfl E_int sc__law_holds.nd rfl (.inl rfl) rfl)
  (B_end (.k (.v (fun _ => rfl) (.v (fun _ => rfl) (.v (fun _ => rfl) (.u .nil)))))) NdN.mono)
  (B_end (.k (.v (fun _ => rfl) (.v (fun _ => rfl) (.v (fun _ => rfl) (.u .nil)))))))
  (B_end (.k (.v (fun _ => rfl) (.u (.u (.u .nil)))))) NdN.mono))) NdN.mono) rfl PassesOwn.never (fun _ => rfl))
  (B_as [.k (.ref a), .v (fun g : ((Unit × Int) × Int) => enc g.2), .u, .u, .u] rfl (by exact (B_if1 (T_cmp (C_ne hu Rr.stb (E_v 1 ok__law_holds (.inl rfl) rfl (.inl rfl)) E_int)) (B_ret (EV.f E_bl))
  (B_seq (S_cl 4 (CL_lcIf [("k", 2)] rfl sc__law_holds.nd (blkOk_by (N := N__law_holds) (sc := (defScope s__law_holds)) (by decide +kernel)) (I_rng1 b_range rfl (fun _ _ => rfl) E_int) (fun _ _ _ _ _ => (G_name 2 sc__law_holds.nd rfl (.inl rfl) (.inr rfl))) (fun _ h => h) (fun _ _ _ _ _ => (T_val (E_callI1 D_is_lasting rfl rfl Rr.stb (fun _ _ => rfl) (E_tupL (α := (List Int)) (H_cons Rr.stb (fun _ _ => rfl) (E_tupL (α := Int) (H_cons Rr.stb (fun _ _ => rfl) (E_band Rr.stb (E_v 2 ok__law_holds (.inl rfl) rfl (.inl rfl)) E_int) (H_cons Rr.stb (fun _ _ => rfl) (E_band Rr.stb (E_shr Rr.stb (E_v 2 ok__law_holds (.inl rfl) rfl (.inl rfl)) E_int) E_int) H_nil)) (by decide)) H_nil) (by decide))))) (fun _ _ _ _ _ => (E_v 2 ok__law_holds (.inl rfl) rfl (.inl rfl))) (fun _ => rfl)) rfl rfl (sw_true rfl rfl rfl (by decide +kernel)))
  (B_as [.k (.ref a), .v (fun g : (((Unit × Int) × Int) × (Ls Int)) => enc g.1.2), .u, .u, .o (fun g : (((Unit × Int) × Int) × (Ls Int)) => enc g.2)] rfl (by exact (B_ret (EV.f (E_and Rr.stb (E_cmp (C_eq hu Rr.stb (E_lenL b_len rfl Rr.stb (fun _ _ => rfl) (E_v 4 ok__law_holds (.inr rfl) rfl (.inl rfl))) E_int)) (E_bone (E_cmp (C_eq hu Rr.stb (E_callI1 D_burnt rfl rfl Rr.stb (fun _ _ => rfl) (E_tupL (α := (List Int)) (H_cons Rr.stb (fun _ _ => rfl) (E_tupL (α := Int) (H_cons Rr.stb (fun _ _ => rfl) E_int (H_cons Rr.stb (fun _ _ => rfl) E_int H_nil)) (by decide)) (H_cons Rr.stb (fun _ _ => rfl) (E_tupL (α := Int) (H_cons Rr.stb (fun _ _ => rfl) E_int (H_cons Rr.stb (fun _ _ => rfl) E_int H_nil)) (by decide)) H_nil)) (by decide))) (E_tupL (α := (Int × Int)) H_nil (by decide)))))))))) NdR.mono)))) NdR.mono))) NdR.mono)


abbrev s__law_next : Stmt := topS 9
theorem sc__law_next : FnScope ["w", "many"] ["w", "many"] (defScope s__law_next) := ⟨rfl, rfl, rfl, by decide +kernel, rfl, by decide +kernel, by decide +kernel⟩
abbrev s_law : Stmt := topS 11
theorem sc_law : FnScope ["script", "w", "turn"] ["script"] (defScope s_law) := ⟨rfl, rfl, rfl, by decide +kernel, rfl, by decide +kernel, by decide +kernel⟩
section
variable {P : Program} {w : World} {K : PySem.W.Frag} {mg : Str → Option Value} {base : Heap}
theorem fn_next {f_ : Addr} {fd : FuncData} (F : Fun K "_law_next" "_law_next" s__law_next f_ fd) (b_len : mg "len" = none) (b_int : mg "int" = none) : FnOk P w K mg base CX0 1 f_ fd ["w", "many"] (spN K) := by
  refine F.ok sc__law_next (fun vs H Q E h => h.1) (fun cdv A outer s H vs Q E hr h => ?_)
  obtain ⟨_, a, D, ds, n, many, r, n', rfl, hW, hn, q⟩ := h
  obtain ⟨hA, hD, h0⟩ := id hW
  have hu := hu_of hr
  refine ⟨_, pss_cons (ps_daug hu (pv 0) pe_str pe_int in_add (fun _ _ _ => rfl))
    (pss_cons (ps_if (pt_cmpR op_gt (pe_dget hu (pv 0) pe_str (fun _ _ => rfl)) (pe_callB call_len_seq (by rfl) b_len PySem.boot_len (pa_cons (pe_dget hu (pv 0) pe_str (fun _ _ => rfl)) pa_nil)) (nomark _)) (pss_one (ps_ret pe_int)) pss_nil)
    (pss_one (ps_ret (pe_op op_modN (pe_callTy call_int1 (by rfl) b_int (by decide +kernel) (pa_cons (pe_ix ix_list (pe_dget hu (pv 0) pe_str (fun _ _ => rfl)) (pe_op op_sub (pe_dget hu (pv 0) pe_str (fun _ _ => rfl)) pe_int) (fun _ _ => rfl)) pa_nil)) (pv 1))))), ?_⟩
  have hDa : D ≠ a := fun c => by subst c; rw [hD] at hA; cases hA
  refine ⟨.ref a, rfl, a, .int n, rfl, valV_at ▸ DGet.k (k := kAt) hA, n, 1, rfl, rfl, _, DPut.k (k := kAt) hA (by show 2 < sizeLine; decide), ?_⟩
  rw [putK_at]
  have gA : (upd H a (.dK [(kDraws, .ref D), (kAt, .int (n + 1))])) a = some (.dK [(kDraws, .ref D), (kAt, .int (n + 1))]) := upd_same
  have gD : (upd H a (.dK [(kDraws, .ref D), (kAt, .int (n + 1))])) D = some (.lst (ds.map V.int)) := by rw [upd_ne hDa]; exact hD
  have g1 : gr (Wl a D ds).Av H (upd H a (.dK [(kDraws, .ref D), (kAt, .int (n + 1))])) := grMut hA (fun z => z) (.inl rfl)
  have w1 : (Wl a D ds).WI (n + 1) (upd H a (.dK [(kDraws, .ref D), (kAt, .int (n + 1))])) := ⟨gA, gD, by omega⟩
  have a1 : DGet (upd H a (.dK [(kDraws, .ref D), (kAt, .int (n + 1))])) a (.str "at") (some (.int (n + 1))) := valV_at ▸ DGet.k (k := kAt) gA
  have a2 : DGet (upd H a (.dK [(kDraws, .ref D), (kAt, .int (n + 1))])) a (.str "draws") (some (.ref D)) := valV_draws ▸ DGet.k (k := kDraws) gA
  refine ⟨.ref a, rfl, a, .int (n + 1), rfl, a1, .ref a, rfl, a, .ref D, rfl, a2, D, _, rfl, .inl (.of gD), n + 1, _, rfl, rfl, _, rfl, ite2 (fun c => ?_) (fun c => ?_)⟩
  · have c1 := of_decide_eq_true c
    rw [List.length_map] at c1
    unfold nxt at hn
    rw [if_pos c1] at hn
    cases hn
    exact q _ g1 w1
  · have c1 : ¬ ((ds.length : Int) < n + 1) := fun z => c (decide_eq_true (by rw [List.length_map]; exact z))
    unfold nxt at hn
    rw [if_neg c1] at hn
    cases e1 : atI ds n with
    | none => rw [e1] at hn; cases hn
    | some x =>
      rw [e1] at hn
      have hn : (modM x many).map (fun r => (r, n + 1)) = some (r, n') := hn
      unfold modM at hn
      by_cases hm : many ≠ 0
      · rw [if_pos hm] at hn
        cases hn
        have e2 : atI (ds.map V.int) (n + 1 - 1) = some (.int x) := by
          rw [Int.add_sub_cancel]
          unfold atI at e1 ⊢
          rw [List.length_map]
          cases q1 : ixN ds.length n with
          | none => rw [q1] at e1; cases e1
          | some j =>
            rw [q1] at e1
            have e1 : ds[j]? = some x := e1
            show (ds.map V.int)[j]? = _
            rw [List.getElem?_map, e1]; rfl
        exact ⟨.ref a, rfl, a, .ref D, rfl, a2, .ref a, rfl, a, .int (n + 1), rfl, a1, n + 1, 1, rfl, rfl, D, _, _, _, rfl, rfl, .of gD, e2, .inl ⟨x, rfl, .int many, rfl, x, many, rfl, rfl, hm, q _ g1 w1⟩⟩
      · rw [if_neg hm] at hn
        cases hn
theorem fn_law {f_ fD fH : Addr} {fd fdD fdH : FuncData} (F : Fun K "law" "law" s_law f_ fd) (GD : FnOk P w K mg base CX0 1 fD fdD ["script", "many"] (spDr K m_draws)) (kpD : PySem.W.keepIn K (.ref fD) = true) (bD : Binds K fdD ["script", "many"] []) (gD : mg "_law_draws" = some (.ref fD))
    (GH : FnOk P w K mg base CX0 4 fH fdH ["w"] (spH m_holds)) (kpH : PySem.W.keepIn K (.ref fH) = true) (bH : Binds K fdH ["w"] []) (gH : mg "_law_holds" = some (.ref fH)) (b_range : mg "range" = none)
    (Pd : List Int → Prop) (hm1 : ∀ ns : List Int, ns.length ≤ 63 → ∃ l, m_draws ns 200 = some l ∧ Pd l.l) (hm2 : ∀ ds, Pd ds → ∀ n, 0 ≤ n → ∃ n', m_holds ds n = some (true, n')) : FnOk P w K mg base CX0 5 f_ fd ["script"] (spLaw K) := by
  refine F.ok sc_law (fun vs H Q E h => by obtain ⟨a, ns, rfl, _⟩ := h; rfl) (fun cdv A outer s H vs Q E hr h => ?_)
  obtain ⟨a, ns, rfl, hS, hlen, q⟩ := h
  obtain ⟨l, hl, hP⟩ := hm1 ns hlen
  refine ⟨_, pss_cons (ps_set (i := 1) sc_law.nd rfl (.inl rfl) (pe_disp (pps_cons pe_str (pe_call GD (hr.mono (by decide)) (by rfl) gD kpD bD .nil pass0 (pa_cons (pv 0) (pa_cons pe_int pa_nil))) (pps_cons pe_str pe_int pps_nil)) (by rfl) (by rfl) (fun z => by cases z) (by decide)))
    (pss_cons (ps_for PassesOwn.never rfl (pi_range1 (by rfl) b_range (pa_cons pe_int pa_nil)) (pg_name (i := 2) sc_law.nd rfl (.inl rfl)) (pss_one (ps_if (pt_not (pt_val (pe_call GH hr (by rfl) gH kpH bH .nil pass0 (pa_cons (pv 1) pa_nil)))) (pss_one (ps_ret pe_bl)) pss_nil)))
    (pss_one (ps_ret pe_bl))), ?_⟩
  intro p hp
  refine ⟨.ref a, rfl, rfl, a, ns, 200, l, rfl, (same_new hp).seq hS, hl, fun v H1 sm p1 => ?_⟩
  obtain ⟨D, xs, rfl, hn, hz, hD, hx⟩ := p1.lst_inv
  have hx := ints_inv hx
  subst hx
  have hDp : D ≠ p := fun c => by
    subst c
    exact hn (by rw [upd_same]; simp)
  refine ⟨sm p _ upd_same, [(kDraws, .ref D), (kAt, .int 0)], rfl, (by show 2 ≤ 15; decide), ?_⟩
  rw [merge_w]
  refine ⟨1, rfl, by decide, by decide, for_range (lo := 0) (n := 1) (fun _ σ H => (∃ x, σ = [some (.ref a), some (.ref p), x]) ∧ ∃ n, (Wl p D l.l).WI n H) ⟨⟨none, rfl⟩, 0, upd_same, by rw [upd_ne hDp]; exact hD, by decide⟩ ?_ ?_⟩
  · rintro i σ H2 hi ⟨⟨x, rfl⟩, n, hW⟩
    obtain ⟨n', h2⟩ := hm2 l.l hP n hW.2.2
    refine ⟨.ref p, rfl, rfl, p, D, l.l, n, true, n', rfl, hW, h2, fun H3 g3 w3 => ⟨true, rfl, ?_⟩⟩
    exact iteF ⟨⟨_, rfl⟩, n', w3⟩
  · rintro σ H2 _
    exact q H2
end
theorem all_mk {l : PySem.W.OpenLaw} {w : World} {K : PySem.W.Frag} {h : Heap} {mg : Str → Option Value} {fa : Addr} (X : K.In h) (G : h.Ns mainGlobals mg) (hfa : mg "law" = some (.ref fa))
    {f_all_spots f_near f_grains_at f_rests f_burnt f_is_lasting f__law_draws f__law_next f__law_holds f_law  : Addr} {od_all_spots an_all_spots od_near an_near od_grains_at an_grains_at od_rests an_rests od_burnt an_burnt od_is_lasting an_is_lasting od__law_draws an__law_draws od__law_next an__law_next od__law_holds an__law_holds od_law an_law  : Option Addr} {sl_all_spots sl_near sl_grains_at sl_rests sl_burnt sl_is_lasting sl__law_draws sl__law_next sl__law_holds sl_law  : Array (Option Value)} {oc_all_spots kV_all_spots dc_all_spots pm_all_spots cd_all_spots ct_all_spots oc_near kV_near dc_near pm_near cd_near ct_near oc_grains_at kV_grains_at dc_grains_at pm_grains_at cd_grains_at ct_grains_at oc_rests kV_rests dc_rests pm_rests cd_rests ct_rests oc_burnt kV_burnt dc_burnt pm_burnt cd_burnt ct_burnt oc_is_lasting kV_is_lasting dc_is_lasting pm_is_lasting cd_is_lasting ct_is_lasting oc__law_draws kV__law_draws dc__law_draws pm__law_draws cd__law_draws ct__law_draws oc__law_next kV__law_next dc__law_next pm__law_next cd__law_next ct__law_next oc__law_holds kV__law_holds dc__law_holds pm__law_holds cd__law_holds ct__law_holds oc_law kV_law dc_law pm_law cd_law ct_law : Value} 
    (a_all_spots : PySem.W.nsIn K mainGlobals "all_spots" = some (some (.ref f_all_spots)))
    (l_all_spots : K.lookup f_all_spots = some ⟨oc_all_spots, od_all_spots, .func (PySem.W.fnOf "all_spots" "all_spots" (defArgs s_all_spots) (defBody s_all_spots) (defScope s_all_spots) .none kV_all_spots dc_all_spots pm_all_spots an_all_spots cd_all_spots ct_all_spots), sl_all_spots⟩)
    (c_all_spots : PySem.W.codeIn K cd_all_spots "all_spots" = true)
    (k_all_spots : PySem.W.keepIn K (.ref f_all_spots) = true)
    (a_near : PySem.W.nsIn K mainGlobals "near" = some (some (.ref f_near)))
    (l_near : K.lookup f_near = some ⟨oc_near, od_near, .func (PySem.W.fnOf "near" "near" (defArgs s_near) (defBody s_near) (defScope s_near) .none kV_near dc_near pm_near an_near cd_near ct_near), sl_near⟩)
    (c_near : PySem.W.codeIn K cd_near "near" = true)
    (k_near : PySem.W.keepIn K (.ref f_near) = true)
    (a_grains_at : PySem.W.nsIn K mainGlobals "grains_at" = some (some (.ref f_grains_at)))
    (l_grains_at : K.lookup f_grains_at = some ⟨oc_grains_at, od_grains_at, .func (PySem.W.fnOf "grains_at" "grains_at" (defArgs s_grains_at) (defBody s_grains_at) (defScope s_grains_at) .none kV_grains_at dc_grains_at pm_grains_at an_grains_at cd_grains_at ct_grains_at), sl_grains_at⟩)
    (c_grains_at : PySem.W.codeIn K cd_grains_at "grains_at" = true)
    (k_grains_at : PySem.W.keepIn K (.ref f_grains_at) = true)
    (a_rests : PySem.W.nsIn K mainGlobals "rests" = some (some (.ref f_rests)))
    (l_rests : K.lookup f_rests = some ⟨oc_rests, od_rests, .func (PySem.W.fnOf "rests" "rests" (defArgs s_rests) (defBody s_rests) (defScope s_rests) .none kV_rests dc_rests pm_rests an_rests cd_rests ct_rests), sl_rests⟩)
    (c_rests : PySem.W.codeIn K cd_rests "rests" = true)
    (k_rests : PySem.W.keepIn K (.ref f_rests) = true)
    (a_burnt : PySem.W.nsIn K mainGlobals "burnt" = some (some (.ref f_burnt)))
    (l_burnt : K.lookup f_burnt = some ⟨oc_burnt, od_burnt, .func (PySem.W.fnOf "burnt" "burnt" (defArgs s_burnt) (defBody s_burnt) (defScope s_burnt) .none kV_burnt dc_burnt pm_burnt an_burnt cd_burnt ct_burnt), sl_burnt⟩)
    (c_burnt : PySem.W.codeIn K cd_burnt "burnt" = true)
    (k_burnt : PySem.W.keepIn K (.ref f_burnt) = true)
    (a_is_lasting : PySem.W.nsIn K mainGlobals "is_lasting" = some (some (.ref f_is_lasting)))
    (l_is_lasting : K.lookup f_is_lasting = some ⟨oc_is_lasting, od_is_lasting, .func (PySem.W.fnOf "is_lasting" "is_lasting" (defArgs s_is_lasting) (defBody s_is_lasting) (defScope s_is_lasting) .none kV_is_lasting dc_is_lasting pm_is_lasting an_is_lasting cd_is_lasting ct_is_lasting), sl_is_lasting⟩)
    (c_is_lasting : PySem.W.codeIn K cd_is_lasting "is_lasting" = true)
    (k_is_lasting : PySem.W.keepIn K (.ref f_is_lasting) = true)
    (a__law_draws : PySem.W.nsIn K mainGlobals "_law_draws" = some (some (.ref f__law_draws)))
    (l__law_draws : K.lookup f__law_draws = some ⟨oc__law_draws, od__law_draws, .func (PySem.W.fnOf "_law_draws" "_law_draws" (defArgs s__law_draws) (defBody s__law_draws) (defScope s__law_draws) .none kV__law_draws dc__law_draws pm__law_draws an__law_draws cd__law_draws ct__law_draws), sl__law_draws⟩)
    (c__law_draws : PySem.W.codeIn K cd__law_draws "_law_draws" = true)
    (k__law_draws : PySem.W.keepIn K (.ref f__law_draws) = true)
    (a__law_next : PySem.W.nsIn K mainGlobals "_law_next" = some (some (.ref f__law_next)))
    (l__law_next : K.lookup f__law_next = some ⟨oc__law_next, od__law_next, .func (PySem.W.fnOf "_law_next" "_law_next" (defArgs s__law_next) (defBody s__law_next) (defScope s__law_next) .none kV__law_next dc__law_next pm__law_next an__law_next cd__law_next ct__law_next), sl__law_next⟩)
    (c__law_next : PySem.W.codeIn K cd__law_next "_law_next" = true)
    (k__law_next : PySem.W.keepIn K (.ref f__law_next) = true)
    (a__law_holds : PySem.W.nsIn K mainGlobals "_law_holds" = some (some (.ref f__law_holds)))
    (l__law_holds : K.lookup f__law_holds = some ⟨oc__law_holds, od__law_holds, .func (PySem.W.fnOf "_law_holds" "_law_holds" (defArgs s__law_holds) (defBody s__law_holds) (defScope s__law_holds) .none kV__law_holds dc__law_holds pm__law_holds an__law_holds cd__law_holds ct__law_holds), sl__law_holds⟩)
    (c__law_holds : PySem.W.codeIn K cd__law_holds "_law_holds" = true)
    (k__law_holds : PySem.W.keepIn K (.ref f__law_holds) = true)
    (a_law : PySem.W.nsIn K mainGlobals "law" = some (some (.ref f_law)))
    (l_law : K.lookup f_law = some ⟨oc_law, od_law, .func (PySem.W.fnOf "law" "law" (defArgs s_law) (defBody s_law) (defScope s_law) .none kV_law dc_law pm_law an_law cd_law ct_law), sl_law⟩)
    (c_law : PySem.W.codeIn K cd_law "law" = true)
    (k_law : PySem.W.keepIn K (.ref f_law) = true)
    (z_abs : PySem.W.nsIn K mainGlobals "abs" = some none)
    (z_all : PySem.W.nsIn K mainGlobals "all" = some none)
    (z_int : PySem.W.nsIn K mainGlobals "int" = some none)
    (z_len : PySem.W.nsIn K mainGlobals "len" = some none)
    (z_range : PySem.W.nsIn K mainGlobals "range" = some none)
    (z_tuple : PySem.W.nsIn K mainGlobals "tuple" = some none)
    (Pd : List Int → Prop) (hm1 : ∀ ns : List Int, ns.length ≤ 63 → ∃ l, m_draws ns 200 = some l ∧ Pd l.l) (hm2 : ∀ ds, Pd ds → ∀ n, 0 ≤ n → ∃ n', m_holds ds n = some (true, n')) :
    ∃ fd : FuncData, (∀ (s : Shared) (v : Value), BindsTo s fd ⟨[v], []⟩ [("script", v)]) ∧ ∀ base : Heap, K.In base → base.Ns mainGlobals mg → FnOk l.prog w K mg base CX0 5 fa fd ["script"] (spLaw K) := by
  have e := hfa.symm.trans (PySem.W.mg_of X G a_law)
  cases e
  have F_all_spots := fun_mk (st := s_all_spots) l_all_spots c_all_spots k_all_spots
  have F_near := fun_mk (st := s_near) l_near c_near k_near
  have F_grains_at := fun_mk (st := s_grains_at) l_grains_at c_grains_at k_grains_at
  have F_rests := fun_mk (st := s_rests) l_rests c_rests k_rests
  have F_burnt := fun_mk (st := s_burnt) l_burnt c_burnt k_burnt
  have F_is_lasting := fun_mk (st := s_is_lasting) l_is_lasting c_is_lasting k_is_lasting
  have F__law_draws := fun_mk (st := s__law_draws) l__law_draws c__law_draws k__law_draws
  have F__law_next := fun_mk (st := s__law_next) l__law_next c__law_next k__law_next
  have F__law_holds := fun_mk (st := s__law_holds) l__law_holds c__law_holds k__law_holds
  have F_law := fun_mk (st := s_law) l_law c_law k_law
  have b_abs := PySem.W.mg_none_of X G z_abs
  have b_all := PySem.W.mg_none_of X G z_all
  have b_int := PySem.W.mg_none_of X G z_int
  have b_len := PySem.W.mg_none_of X G z_len
  have b_range := PySem.W.mg_none_of X G z_range
  have b_tuple := PySem.W.mg_none_of X G z_tuple
  have bi_all_spots := F_all_spots.binds (ps := ["sand"]) fun _ _ _ _ _ _ us hl => match us, hl with | [_], _ => rfl
  have g_all_spots := PySem.W.mg_of X G a_all_spots
  have bi_near := F_near.binds (ps := ["sand", "spot"]) fun _ _ _ _ _ _ us hl => match us, hl with | [_, _], _ => rfl
  have g_near := PySem.W.mg_of X G a_near
  have bi_grains_at := F_grains_at.binds (ps := ["sand", "spot"]) fun _ _ _ _ _ _ us hl => match us, hl with | [_, _], _ => rfl
  have g_grains_at := PySem.W.mg_of X G a_grains_at
  have bi_rests := F_rests.binds (ps := ["sand"]) fun _ _ _ _ _ _ us hl => match us, hl with | [_], _ => rfl
  have g_rests := PySem.W.mg_of X G a_rests
  have bi_burnt := F_burnt.binds (ps := ["sand"]) fun _ _ _ _ _ _ us hl => match us, hl with | [_], _ => rfl
  have g_burnt := PySem.W.mg_of X G a_burnt
  have bi_is_lasting := F_is_lasting.binds (ps := ["sand"]) fun _ _ _ _ _ _ us hl => match us, hl with | [_], _ => rfl
  have g_is_lasting := PySem.W.mg_of X G a_is_lasting
  have bi__law_draws := F__law_draws.binds (ps := ["script", "many"]) fun _ _ _ _ _ _ us hl => match us, hl with | [_, _], _ => rfl
  have g__law_draws := PySem.W.mg_of X G a__law_draws
  have bi__law_next := F__law_next.binds (ps := ["w", "many"]) fun _ _ _ _ _ _ us hl => match us, hl with | [_, _], _ => rfl
  have g__law_next := PySem.W.mg_of X G a__law_next
  have bi__law_holds := F__law_holds.binds (ps := ["w"]) fun _ _ _ _ _ _ us hl => match us, hl with | [_], _ => rfl
  have g__law_holds := PySem.W.mg_of X G a__law_holds
  refine ⟨PySem.W.fnOf "law" "law" (defArgs s_law) (defBody s_law) (defScope s_law) .none kV_law dc_law pm_law an_law cd_law ct_law, fun s v => .of_eq rfl, fun base _ _ => ?_⟩
  have G__law_next : FnOk l.prog w K mg base CX0 1 _ _ ["w", "many"] (spN K) := fn_next F__law_next b_len b_int
  have N_next : ∀ A : Around, Room 3 A → DfnN l.prog w K mg base A := fun A hr => ⟨⟨1, _, _, _, G__law_next, hr.mono (by decide), g__law_next, k__law_next, bi__law_next⟩⟩
  have G_all_spots : FnOk l.prog w K mg base CX0 1 _ _ ["sand"] (spD K 1 (M1 m_all_spots)) := fn_all_spots F_all_spots b_len b_range
  have G_near : FnOk l.prog w K mg base CX0 1 _ _ ["sand", "spot"] (spD K 2 (M2 m_near)) := fn_near F_near b_len
  have G_grains_at : FnOk l.prog w K mg base CX0 1 _ _ ["sand", "spot"] (spD K 2 (M2 m_grains_at)) := fn_grains_at F_grains_at
  have G_rests : FnOk l.prog w K mg base CX0 2 _ _ ["sand"] (spD K 1 (M1 m_rests)) := fn_rests F_rests b_all (fun A hr => ⟨⟨1, _, _, _, G_all_spots, hr.mono (by decide), g_all_spots, k_all_spots, bi_all_spots⟩⟩) (fun A hr => ⟨⟨1, _, _, _, G_grains_at, hr.mono (by decide), g_grains_at, k_grains_at, bi_grains_at⟩⟩)
  have G_burnt : FnOk l.prog w K mg base CX0 2 _ _ ["sand"] (spD K 1 (M1 m_burnt)) := fn_burnt F_burnt b_len b_tuple (fun A hr => ⟨⟨1, _, _, _, G_all_spots, hr.mono (by decide), g_all_spots, k_all_spots, bi_all_spots⟩⟩) (fun A hr => ⟨⟨1, _, _, _, G_grains_at, hr.mono (by decide), g_grains_at, k_grains_at, bi_grains_at⟩⟩) (fun A hr => ⟨⟨1, _, _, _, G_near, hr.mono (by decide), g_near, k_near, bi_near⟩⟩)
  have G_is_lasting : FnOk l.prog w K mg base CX0 3 _ _ ["sand"] (spD K 1 (M1 m_is_lasting)) := fn_is_lasting F_is_lasting (fun A hr => ⟨⟨2, _, _, _, G_burnt, hr.mono (by decide), g_burnt, k_burnt, bi_burnt⟩⟩) (fun A hr => ⟨⟨2, _, _, _, G_rests, hr.mono (by decide), g_rests, k_rests, bi_rests⟩⟩)
  have G__law_draws : FnOk l.prog w K mg base CX0 1 _ _ ["script", "many"] (spDr K m_draws) := fn_draws F__law_draws b_abs b_int b_len b_range
  have G__law_holds : FnOk l.prog w K mg base CX0 4 _ _ ["w"] (spH m_holds) := fn_holds F__law_holds b_len b_range (fun A hr => ⟨⟨2, _, _, _, G_burnt, hr.mono (by decide), g_burnt, k_burnt, bi_burnt⟩⟩) (fun A hr => ⟨⟨3, _, _, _, G_is_lasting, hr.mono (by decide), g_is_lasting, k_is_lasting, bi_is_lasting⟩⟩) N_next
  exact fn_law F_law G__law_draws k__law_draws bi__law_draws g__law_draws G__law_holds k__law_holds bi__law_holds g__law_holds b_range Pd hm1 hm2
def Pd (ds : List Int) : Prop := ∀ x ∈ ds, 0 ≤ x ∧ x < 997
theorem pd_nil : Pd [] := fun x hx => nomatch hx
theorem pd_app {xs : List Int} {y : Int} (h : Pd xs) (h1 : 0 ≤ y) (h2 : y < 997) : Pd (xs ++ [y]) := by
  intro x hx
  rcases List.mem_append.mp hx with q | q
  · exact h x q
  · rw [List.mem_singleton.mp q]; exact ⟨h1, h2⟩
theorem hm1 (ns : List Int) (h : ns.length ≤ 63) : ∃ l, m_draws ns 200 = some l ∧ Pd l.l := by
  refine wp_opt (Q := fun (l : Ls Int) _ => Pd l.l) ?_
  unfold m_draws
  simp only [pure_bind, bind_assoc]
  refine wp_bind (wp_lift rngM_ok ?_)
  refine wp_bind (wp_fold (fun k (d : Int × Ls Int) _ => 0 ≤ d.1 ∧ d.1 < 65537 ∧ Pd d.2.l ∧ d.2.l.length ≤ 62 * k) _ 0 _ () ⟨by decide, by decide, pd_nil, by decide⟩ (fun k y d s hy hd => ?_) fun d s hd => ?_)
  · obtain ⟨hk, rfl⟩ := rngL_get hy
    obtain ⟨i1, i2, i3, i4⟩ := hd
    rcases hx : ns[k]? with _ | x
    · have := List.getElem?_eq_none_iff.mp hx; omega
    refine wp_bind (wp_lift (atI_ok (i := 0 + (k : Int)) (by omega) (by rw [show (0 + (k : Int)).toNat = k by omega]; exact hx)) ?_)
    have hc : 0 ≤ absI x := by unfold absI; split <;> omega
    generalize absI x = c at hc ⊢
    refine wp_bind (wp_lift mulM_ok ?_)
    refine wp_bind (wp_lift modM_ok ?_)
    refine wp_bind (wp_lift modM_ok ?_)
    have hm0 : 0 ≤ (d.1 * 48271 + c % 1000003 + (0 + (k : Int))) % 65537 := Int.emod_nonneg _ (by decide)
    have hm1 : (d.1 * 48271 + c % 1000003 + (0 + (k : Int))) % 65537 < 65537 := Int.emod_lt_of_pos _ (by decide)
    generalize (d.1 * 48271 + c % 1000003 + (0 + (k : Int))) % 65537 = mx at hm0 hm1 ⊢
    refine wp_bind (wp_lift (a := 10 ^ 18) (by decide +kernel) ?_)
    refine wp_seq (fun (r : Int × Ls Int) _ => 0 ≤ r.1 ∧ Pd r.2.l ∧ r.2.l.length ≤ 62 * k + 2) ?_ fun r s' hr => ?_
    · refine wp_ite (fun _ => wp_pure ⟨hc, i3, by show d.2.l.length ≤ _; omega⟩) fun _ => ?_
      refine wp_bind (wp_lift modM_ok ?_)
      refine wp_bind (wp_lift appM_ok ?_)
      refine wp_bind (wp_lift mulM_ok ?_)
      refine wp_bind (wp_lift modM_ok ?_)
      refine wp_bind (wp_lift modM_ok ?_)
      refine wp_bind (wp_lift (appM_ok (by simp; omega)) ?_)
      refine wp_pure ⟨Int.le_refl 0, pd_app (pd_app i3 (by omega) (by omega)) (by omega) (by omega), ?_⟩
      simp
      omega
    · obtain ⟨r1, r2, r3⟩ := hr
      refine wp_bind (wp_lift rngM_ok ?_)
      refine wp_bind (wp_fold (fun j (e : Ls Int × Int) _ => 0 ≤ e.2 ∧ Pd e.1.l ∧ e.1.l.length ≤ 62 * k + 2 + j) _ 0 _ s' ⟨r1, r2, by show r.2.l.length ≤ _; omega⟩ (fun j y e s hy he => ?_) fun e s he => ?_)
      · obtain ⟨hj, rfl⟩ := rngL_get hy
        obtain ⟨e1, e2, e3⟩ := he
        refine wp_seq (fun (e : Ls Int × Int) _ => 0 ≤ e.2 ∧ Pd e.1.l ∧ e.1.l.length ≤ 62 * k + 2 + (0 + j + 1)) ?_ fun r s' hr => wp_pure hr
        refine wp_ite (fun _ => ?_) fun _ => wp_pure ⟨e1, e2, by show e.1.l.length ≤ _; omega⟩
        refine wp_bind (wp_lift modM_ok ?_)
        refine wp_bind (wp_lift appM_ok ?_)
        refine wp_bind (wp_lift divM_ok ?_)
        refine wp_pure ⟨?_, pd_app e2 (by omega) (by omega), ?_⟩
        · show 0 ≤ e.2 / 997
          omega
        · simp
          omega
      · obtain ⟨e1, e2, e3⟩ := he
        refine wp_pure ⟨hm0, hm1, e2, ?_⟩
        rw [rngL_len] at e3
        show e.1.l.length ≤ _
        omega
  · obtain ⟨i1, i2, i3, i4⟩ := hd
    rw [rngL_len] at i4
    refine wp_bind (wp_lift rngM_ok ?_)
    refine wp_bind (wp_fold (fun j (e : Int × Ls Int) _ => 0 ≤ e.1 ∧ e.1 < 65537 ∧ Pd e.2.l ∧ e.2.l.length ≤ 62 * 63 + j) _ 0 _ s ⟨i1, i2, i3, by show d.2.l.length ≤ _; omega⟩ (fun j y e s hy he => ?_) fun e s he => ?_)
    · obtain ⟨hj, rfl⟩ := rngL_get hy
      obtain ⟨e1, e2, e3, e4⟩ := he
      refine wp_bind (wp_lift mulM_ok ?_)
      refine wp_bind (wp_lift modM_ok ?_)
      refine wp_bind (wp_lift modM_ok ?_)
      refine wp_bind (wp_lift appM_ok ?_)
      refine wp_pure ⟨Int.emod_nonneg _ (by decide), Int.emod_lt_of_pos _ (by decide), pd_app e3 (by omega) (by omega), ?_⟩
      simp
      omega
    · refine wp_pure ?_
      intro x hx
      exact he.2.2.1 x (List.mem_of_mem_drop (List.mem_of_mem_take hx))
theorem hm2 (ds : List Int) (h : Pd ds) (n : Int) (h0 : 0 ≤ n) : ∃ n', m_holds ds n = some (true, n') := ⟨n, by kernel_rfl⟩
end Law

open PySem PySem.W PyProof.Rows
theorem PySem.Challenge.cw_tidestold_k05_whole_known_lasting_sand_c_holds : PySem.Challenge.rw_tidestold_k05_whole_known_lasting_sand_c.Holds := by
  w_on; o_law; k_head; (case hw => w_witness2)
  k_fill
  refine L2.walk_of (l := PySem.Challenge.rw_tidestold_k05_whole_known_lasting_sand_c) (n := 63) (k := 5) (x := "script") (CX := fun _ => L2.CX0) (sp := fun w => TC.spLaw _) rfl (by decide) rfl ⟨rfl, by decide, by decide⟩ (fun w h Y => PySem.W.kIn_of Y) ?F (fun _ _ a ns hl _ hS => ⟨a, ns, rfl, hS, hl, fun _ => rfl⟩) (fun _ _ _ _ _ h => h)
  case F =>
    intro w mg fa h KX G hmg
    refine' Law.all_mk KX G hmg ?a_all_spots ?l_all_spots ?c_all_spots ?k_all_spots ?a_near ?l_near ?c_near ?k_near ?a_grains_at ?l_grains_at ?c_grains_at ?k_grains_at ?a_rests ?l_rests ?c_rests ?k_rests ?a_burnt ?l_burnt ?c_burnt ?k_burnt ?a_is_lasting ?l_is_lasting ?c_is_lasting ?k_is_lasting ?a__law_draws ?l__law_draws ?c__law_draws ?k__law_draws ?a__law_next ?l__law_next ?c__law_next ?k__law_next ?a__law_holds ?l__law_holds ?c__law_holds ?k__law_holds ?a_law ?l_law ?c_law ?k_law ?z_abs ?z_all ?z_int ?z_len ?z_range ?z_tuple Law.Pd Law.hm1 Law.hm2
    (case a_all_spots => k_is); (case l_all_spots => k_is); (case c_all_spots => k_is); (case k_all_spots => k_is); (case a_near => k_is); (case l_near => k_is); (case c_near => k_is); (case k_near => k_is)
    (case a_grains_at => k_is); (case l_grains_at => k_is); (case c_grains_at => k_is); (case k_grains_at => k_is); (case a_rests => k_is); (case l_rests => k_is); (case c_rests => k_is); (case k_rests => k_is)
    (case a_burnt => k_is); (case l_burnt => k_is); (case c_burnt => k_is); (case k_burnt => k_is); (case a_is_lasting => k_is); (case l_is_lasting => k_is); (case c_is_lasting => k_is); (case k_is_lasting => k_is)
    (case a__law_draws => k_is); (case l__law_draws => k_is); (case c__law_draws => k_is); (case k__law_draws => k_is); (case a__law_next => k_is); (case l__law_next => k_is); (case c__law_next => k_is); (case k__law_next => k_is)
    (case a__law_holds => k_is); (case l__law_holds => k_is); (case c__law_holds => k_is); (case k__law_holds => k_is); (case a_law => k_is); (case l_law => k_is); (case c_law => k_is); (case k_law => k_is)
    (case z_abs => k_is); (case z_all => k_is); (case z_int => k_is); (case z_len => k_is); (case z_range => k_is); (case z_tuple => k_is)

