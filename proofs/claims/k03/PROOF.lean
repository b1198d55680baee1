import PyProof.Rows.All
import Wide.All
import OpenK.AllK
import Wide.FinOn
import PyProof.EqAt
import PyProof.EqKinds
import PyProof.TupleCall
import HandS.ForMost
import HandS.ForExc
import HandS.Lambda
import HandS.TupAny
import HandS.TupMul
import HandS.Wide
import HandS.IsInst
import HandS.SortInts
import HandS.DictComp
import HandS.Zip
import HandS.Style
import HandS.SortRule
import HandS.Conv
import HandS.Codes
import HandS.DictTup
import KE.GoesEnum
import KE.GoesMore
import HandS.Iter
import HandS.Ends
import KE.KStateDown
import HandS.Head0
import HandS.Head1
import HandS.Head2
import HandS.HeadHook1
import HandS.HeadHook2
import HandS.ExcInit
import HandS.ExcField
import HandS.ExcIs
import HandS.ExcOwn
import KE.KExcInit
import HandS.EndBits
import HandS.EndTab
import KE.KNest
import KE.KUnpackStar
import HandS.More
import HandS.Defaults
import HandS.Star
import HandS.Property
import HandS.SlotsOwn
import KE.KOpsOwn
import HandS.Flow
import HandS.ListItems
import KE.KItemsList
import KE.KEqNest
import HandS.SortKw
import KE.DataMinMax
import PyProof.RulesMatch
import HandS.ClsMeth
import HandS.SetFor
import KE.KExcIs
import HandS.OwnEq
import PyProof.InstNe
import PySem.Challenge.RW_forkecho_k03_bounds_of_programs
set_option Elab.async false
set_option linter.all false
set_option maxRecDepth 100000
set_option maxHeartbeats 4000000
namespace DL
open PySem PySem.Spec L2
/-! ### data: values as trees; what may be changed is a ref -/
inductive D where
  | non | bl (b : Bool) | int (i : Int) | str (s : Str) | ref (a : Addr) | ty (n : String)
  | tup (xs : List D) | tpl (xs : List D) | lst (xs : List D) | lk (xs : List D) | ob (C : Addr) (fs : List (Str × D)) | xob (C : Addr) (fs : List (Str × D)) | lam (f c : Addr) (q : Str) (ρ : List (Option D)) (σ : List (Option V)) | dK (kvs : List (Key × D)) | dT (kvs : List (List Key × D))
/-- an object that may change -/
inductive AO where
  | lst (xs : List D) | dK (kvs : List (Key × D)) | dT (kvs : List (List Key × D)) | ins (C : Addr) (fs : List (Str × D)) | lck (xs : List D) | tab (q : Str) | lckK (o : Obj) (kvs : List (Key × D))
abbrev AH := Addr → Option AO
def up (h : AH) (a : Addr) (o : AO) : AH := fun b => if b = a then some o else h b
@[simp] theorem up_same {h : AH} {a : Addr} {o : AO} : up h a o a = some o := by simp [up]
theorem up_ne {h : AH} {a b : Addr} {o : AO} (e : b ≠ a) : up h a o b = h b := by simp [up, e]
@[simp] theorem up_up {h : AH} {a : Addr} {o u : AO} : up (up h a o) a u = up h a u := by
  funext b; unfold up; split <;> rfl
/-- Sub g h: g is a part of h -/
def Sub (g h : AH) : Prop := ∀ a o, g a = some o → h a = some o
theorem Sub.refl (h : AH) : Sub h h := fun _ _ e => e
theorem Sub.trans {f g h : AH} (a : Sub f g) (b : Sub g h) : Sub f h := fun c o e => b c o (a c o e)
theorem sub_up {h : AH} {p : Addr} {o : AO} (e : h p = none) : Sub h (up h p o) := fun a u q => by
  rw [up_ne]; exact q
  rintro rfl; rw [e] at q; cases q
/-- an exception that is kept: its class, its dict -/
def exV (a C : Addr) (d : Option Addr) : HO := .ext fun h => ∃ (oe : Obj) (vs : Array Value), h.get? a = some oe ∧ Zc (.ref C) d oe ∧ oe.data = .fields vs
mutual
inductive Rep (K : PySem.W.Frag) (F : Hp) : D → V → Prop where
  | non : Rep K F .non .non
  | bl (b : Bool) : Rep K F (.bl b) (.bl b)
  | int (i : Int) : Rep K F (.int i) (.int i)
  | str (s : Str) : Rep K F (.str s) (.str s)
  | ref (a : Addr) : Rep K F (.ref a) (.ref a)
  | ty (n : String) : Rep K F (.ty n) (.ty n)
  | tup {a : Addr} {xs : List D} {vs : List V} (h : SqT K F a vs) (r : Reps K F xs vs) : Rep K F (.tup xs) (.ref a)
  | tpl {a : Addr} {ob : Obj} {xs : List D} {vs : List V} (h : F a = some (.frz ob (.tup vs))) (hd : ob.dict = none) (r : Reps K F xs vs) : Rep K F (.tpl xs) (.ref a)
  | lst {a : Addr} {xs : List D} {vs : List V} (h : F a = some (.lst vs)) (r : Reps K F xs vs) : Rep K F (.lst xs) (.ref a)
  | lk {a : Addr} {xs : List D} {vs : List V} (h : SqL K F a vs) (r : Reps K F xs vs) : Rep K F (.lk xs) (.ref a)
  | dK {a : Addr} {xs : List (Key × D)} {vs : List (Key × V)} (h : F a = some (.dK vs)) (r : RepK K F xs vs) : Rep K F (.dK xs) (.ref a)
  | dT {a : Addr} {xs : List (List Key × D)} {vs : List (List Key × V)} (h : F a = some (.dT vs)) (r : RepT K F xs vs) : Rep K F (.dT xs) (.ref a)
  | ob {a C : Addr} {dx : Addr} {xs : List (Str × D)} {vs : List (Str × V)} (h : F a = some (.ins C dx vs)) (r : RepF K F xs vs) : Rep K F (.ob C xs) (.ref a)
  | xob0 {a C : Addr} (h : F a = some (exV a C none)) : Rep K F (.xob C []) (.ref a)
  | xob {a C dx : Addr} {xs : List (Str × D)} {vs : List (Str × V)} (h : F a = some (exV a C (some dx))) (hd : F dx = some (.xd vs)) (r : RepF K F xs vs) : Rep K F (.xob C xs) (.ref a)
  | lam {f c : Addr} {q : Str} {ρ : List (Option D)} {σ : List (Option V)} (h : F c = some (LamX.CodeO c q)) (r : RepE K F ρ σ) : Rep K F (.lam f c q ρ σ) (.ref f)
inductive Reps (K : PySem.W.Frag) (F : Hp) : List D → List V → Prop where
  | nil : Reps K F [] []
  | cons {x : D} {v : V} {xs : List D} {vs : List V} (h : Rep K F x v) (t : Reps K F xs vs) : Reps K F (x :: xs) (v :: vs)
inductive RepK (K : PySem.W.Frag) (F : Hp) : List (Key × D) → List (Key × V) → Prop where
  | nil : RepK K F [] []
  | cons {k : Key} {x : D} {v : V} {xs : List (Key × D)} {vs : List (Key × V)} (h : Rep K F x v) (t : RepK K F xs vs) : RepK K F ((k, x) :: xs) ((k, v) :: vs)
inductive RepT (K : PySem.W.Frag) (F : Hp) : List (List Key × D) → List (List Key × V) → Prop where
  | nil : RepT K F [] []
  | cons {k : List Key} {x : D} {v : V} {xs : List (List Key × D)} {vs : List (List Key × V)} (h : Rep K F x v) (t : RepT K F xs vs) : RepT K F ((k, x) :: xs) ((k, v) :: vs)
inductive RepE (K : PySem.W.Frag) (F : Hp) : List (Option D) → List (Option V) → Prop where
  | nil : RepE K F [] []
  | none {ρ : List (Option D)} {σ : List (Option V)} {v : Option V} (t : RepE K F ρ σ) : RepE K F (none :: ρ) (v :: σ)
  | cons {d : D} {v : V} {ρ : List (Option D)} {σ : List (Option V)} (h : Rep K F d v) (t : RepE K F ρ σ) : RepE K F (some d :: ρ) (some v :: σ)
inductive RepF (K : PySem.W.Frag) (F : Hp) : List (Str × D) → List (Str × V) → Prop where
  | nil : RepF K F [] []
  | cons {k : Str} {x : D} {v : V} {xs : List (Str × D)} {vs : List (Str × V)} (h : Rep K F x v) (t : RepF K F xs vs) : RepF K F ((k, x) :: xs) ((k, v) :: vs)
end
def Ext (F F' : Hp) : Prop := ∀ a o, F a = some o → F' a = some o
theorem Ext.refl (F : Hp) : Ext F F := fun _ _ e => e
theorem Ext.trans {F G H : Hp} (a : Ext F G) (b : Ext G H) : Ext F H := fun c o e => b c o (a c o e)
theorem ext_upd {F : Hp} {p : Addr} {o : HO} (e : F p = none) : Ext F (upd F p o) := fun a u q => by
  rw [upd_ne]; exact q
  rintro rfl; rw [e] at q; cases q
theorem Ext.sqt {K : PySem.W.Frag} {F F' : Hp} {a : Addr} {vs : List V} (e : Ext F F') (h : SqT K F a vs) : SqT K F' a vs := by
  rcases h with (h | ⟨o, h⟩) | h
  · exact .inl (.inl (e _ _ h))
  · exact .inl (.inr ⟨o, e _ _ h⟩)
  · exact .inr h
theorem Ext.sql {K : PySem.W.Frag} {F F' : Hp} {a : Addr} {vs : List V} (e : Ext F F') (h : SqL K F a vs) : SqL K F' a vs := by
  rcases h with (h | ⟨o, h⟩) | h
  · exact .inl (.inl (e _ _ h))
  · exact .inl (.inr ⟨o, e _ _ h⟩)
  · exact .inr h
section
variable {K : PySem.W.Frag} {F F' : Hp}
mutual
theorem Rep.ext (e : Ext F F') : ∀ {x : D} {v : V}, Rep K F x v → Rep K F' x v
  | _, _, .non => .non
  | _, _, .bl b => .bl b
  | _, _, .int i => .int i
  | _, _, .str s => .str s
  | _, _, .ref a => .ref a
  | _, _, .ty n => .ty n
  | _, _, .tup h r => .tup (e.sqt h) (Reps.ext e r)
  | _, _, .tpl h hd r => .tpl (e _ _ h) hd (Reps.ext e r)
  | _, _, .lst h r => .lst (e _ _ h) (Reps.ext e r)
  | _, _, .lk h r => .lk (e.sql h) (Reps.ext e r)
  | _, _, .dK h r => .dK (e _ _ h) (RepK.ext e r)
  | _, _, .dT h r => .dT (e _ _ h) (RepT.ext e r)
  | _, _, .ob h r => .ob (e _ _ h) (RepF.ext e r)
  | _, _, .xob0 h => .xob0 (e _ _ h)
  | _, _, .xob h hd r => .xob (e _ _ h) (e _ _ hd) (RepF.ext e r)
  | _, _, .lam h r => .lam (e _ _ h) (RepE.ext e r)
theorem Reps.ext (e : Ext F F') : ∀ {xs : List D} {vs : List V}, Reps K F xs vs → Reps K F' xs vs
  | _, _, .nil => .nil
  | _, _, .cons h t => .cons (Rep.ext e h) (Reps.ext e t)
theorem RepK.ext (e : Ext F F') : ∀ {xs : List (Key × D)} {vs : List (Key × V)}, RepK K F xs vs → RepK K F' xs vs
  | _, _, .nil => .nil
  | _, _, .cons h t => .cons (Rep.ext e h) (RepK.ext e t)
theorem RepT.ext (e : Ext F F') : ∀ {xs : List (List Key × D)} {vs : List (List Key × V)}, RepT K F xs vs → RepT K F' xs vs
  | _, _, .nil => .nil
  | _, _, .cons h t => .cons (Rep.ext e h) (RepT.ext e t)
theorem RepE.ext (e : Ext F F') : ∀ {xs : List (Option D)} {vs : List (Option V)}, RepE K F xs vs → RepE K F' xs vs
  | _, _, .nil => .nil
  | _, _, .none t => .none (RepE.ext e t)
  | _, _, .cons h t => .cons (Rep.ext e h) (RepE.ext e t)
theorem RepF.ext (e : Ext F F') : ∀ {xs : List (Str × D)} {vs : List (Str × V)}, RepF K F xs vs → RepF K F' xs vs
  | _, _, .nil => .nil
  | _, _, .cons h t => .cons (Rep.ext e h) (RepF.ext e t)
end
theorem Reps.length : ∀ {xs : List D} {vs : List V}, Reps K F xs vs → xs.length = vs.length
  | _, _, .nil => rfl
  | _, _, .cons _ t => by simp [Reps.length t]
theorem Reps.append : ∀ {xs ys : List D} {vs ws : List V}, Reps K F xs vs → Reps K F ys ws → Reps K F (xs ++ ys) (vs ++ ws)
  | _, _, _, _, .nil, s => s
  | _, _, _, _, .cons h t, s => .cons h (Reps.append t s)
theorem Reps.get : ∀ {xs : List D} {vs : List V} {i : Nat} {x : D}, Reps K F xs vs → xs[i]? = some x → ∃ v, vs[i]? = some v ∧ Rep K F x v
  | _, _, _, _, .nil, e => by simp at e
  | _, _, 0, _, .cons h _, e => by simp at e; subst e; exact ⟨_, rfl, h⟩
  | _, _, i + 1, x, .cons _ t, e => by
    obtain ⟨v, h1, h2⟩ := Reps.get (i := i) (x := x) t (by simpa using e)
    exact ⟨v, by simpa using h1, h2⟩
theorem Reps.set {x : D} {v : V} (r : Rep K F x v) : ∀ {xs : List D} {vs : List V} (i : Nat), Reps K F xs vs → Reps K F (xs.set i x) (vs.set i v)
  | _, _, _, .nil => .nil
  | _, _, 0, .cons _ t => .cons r t
  | _, _, i + 1, .cons q t => .cons q (Reps.set r i t)
theorem Reps.take : ∀ {xs : List D} {vs : List V} (n : Nat), Reps K F xs vs → Reps K F (xs.take n) (vs.take n)
  | _, _, 0, _ => .nil
  | _, _, _ + 1, .nil => .nil
  | _, _, n + 1, .cons r t => .cons r (Reps.take n t)
theorem Reps.drop : ∀ {xs : List D} {vs : List V} (n : Nat), Reps K F xs vs → Reps K F (xs.drop n) (vs.drop n)
  | _, _, 0, r => r
  | _, _, _ + 1, .nil => .nil
  | _, _, n + 1, .cons _ t => Reps.drop n t
end
def RepO (K : PySem.W.Frag) (F : Hp) : AO → HO → Prop
  | .lst xs, u => ∃ vs, u = .lst vs ∧ Reps K F xs vs
  | .dK kvs, u => ∃ vs, u = .dK vs ∧ RepK K F kvs vs
  | .dT kvs, u => ∃ vs, u = .dT vs ∧ RepT K F kvs vs
  | .ins C fs, u => ∃ dx vs, u = .ins C dx vs ∧ RepF K F fs vs
  | .lck xs, u => ∃ o vs, u = .frz o (.lst vs) ∧ Reps K F xs vs
  | .lckK o kvs, u => ∃ vs, u = .frz o (.dK vs) ∧ RepK K F kvs vs
  | .tab q, u => ∃ ps : Array Value, u = .tbl ps ∧ TriplesOk ps.toList ∧ ∀ (pos : Pos) (cv : Value), codeAmong pos ps.toList = some cv → ∃ c, cv = .ref c ∧ F c = some (LamX.CodeO c q)
theorem RepO.ext {K : PySem.W.Frag} {F F' : Hp} (e : Ext F F') : ∀ {o : AO} {u : HO}, RepO K F o u → RepO K F' o u
  | .lst _, _, ⟨vs, a, r⟩ => ⟨vs, a, r.ext e⟩
  | .dK _, _, ⟨vs, a, r⟩ => ⟨vs, a, r.ext e⟩
  | .dT _, _, ⟨vs, a, r⟩ => ⟨vs, a, r.ext e⟩
  | .ins _ _, _, ⟨dx, vs, a, r⟩ => ⟨dx, vs, a, r.ext e⟩
  | .lck _, _, ⟨o, vs, a, r⟩ => ⟨o, vs, a, r.ext e⟩
  | .lckK _ _, _, ⟨vs, a, r⟩ => ⟨vs, a, r.ext e⟩
  | .tab _, _, ⟨ps, a, t, r⟩ => ⟨ps, a, t, fun pos cv z => let ⟨c, e1, e2⟩ := r pos cv z; ⟨c, e1, e _ _ e2⟩⟩
structure Sim (K : PySem.W.Frag) (F : Hp) (h : AH) (H : Hp) : Prop where
  fz : ∀ a o, F a = some o → H a = some o
  ob : ∀ a o, h a = some o → F a = none ∧ ∃ u, H a = some u ∧ RepO K F o u
section
variable {K : PySem.W.Frag} {F : Hp} {h g : AH} {H : Hp} {p : Addr}
theorem Sim.sub (S : Sim K F h H) (s : Sub g h) : Sim K F g H := ⟨S.fz, fun a o e => S.ob a o (s a o e)⟩
theorem Sim.free (S : Sim K F h H) (e : H p = none) : F p = none ∧ h p = none := by
  refine ⟨?_, ?_⟩
  · cases q : F p with
    | none => rfl
    | some o => rw [S.fz _ _ q] at e; cases e
  · cases q : h p with
    | none => rfl
    | some o => obtain ⟨_, u, e', _⟩ := S.ob _ _ q; rw [e'] at e; cases e
/-- a new object, never to change -/
theorem Sim.newF (S : Sim K F h H) (e : H p = none) (u : HO) : Sim K (upd F p u) h (upd H p u) := by
  obtain ⟨e1, e2⟩ := S.free e
  refine ⟨fun a o q => ?_, fun a o q => ?_⟩
  · by_cases c : a = p
    · subst c; rw [upd_same] at q ⊢; exact q
    · rw [upd_ne c] at q ⊢; exact S.fz _ _ q
  · have c : a ≠ p := by rintro rfl; rw [e2] at q; cases q
    obtain ⟨f, w, hw, r⟩ := S.ob _ _ q
    rw [upd_ne c, upd_ne c]
    exact ⟨f, w, hw, r.ext (ext_upd e1)⟩
/-- a new object that may change -/
theorem Sim.newM (S : Sim K F h H) (e : H p = none) {o : AO} {u : HO} (r : RepO K F o u) : Sim K F (up h p o) (upd H p u) := by
  obtain ⟨e1, e2⟩ := S.free e
  refine ⟨fun a v q => ?_, fun a v q => ?_⟩
  · have c : a ≠ p := by rintro rfl; rw [e1] at q; cases q
    rw [upd_ne c]; exact S.fz _ _ q
  · by_cases c : a = p
    · subst c; rw [up_same] at q; cases q; exact ⟨e1, u, upd_same, r⟩
    · rw [up_ne c] at q; rw [upd_ne c]; exact S.ob _ _ q
/-- an object changes -/
theorem Sim.put (S : Sim K F h H) {o0 : AO} (e : h p = some o0) {o : AO} {u : HO} (r : RepO K F o u) : Sim K F (up h p o) (upd H p u) := by
  obtain ⟨e1, _⟩ := S.ob _ _ e
  refine ⟨fun a v q => ?_, fun a v q => ?_⟩
  · have c : a ≠ p := by rintro rfl; rw [e1] at q; cases q
    rw [upd_ne c]; exact S.fz _ _ q
  · by_cases c : a = p
    · subst c; rw [up_same] at q; cases q; exact ⟨e1, u, upd_same, r⟩
    · rw [up_ne c] at q; rw [upd_ne c]; exact S.ob _ _ q
end
abbrev EnvD := List (Option D)
def EnvR (K : PySem.W.Frag) (F : Hp) (ρ : EnvD) (σ : St) : Prop := σ.length = ρ.length ∧ ∀ (i : Nat) d, ρ[i]? = some (some d) → ∃ v, σ[i]? = some (some v) ∧ Rep K F d v
theorem EnvR.ext {K : PySem.W.Frag} {F F' : Hp} (e : Ext F F') {ρ : EnvD} {σ : St} (r : EnvR K F ρ σ) : EnvR K F' ρ σ :=
  ⟨r.1, fun i d h => let ⟨v, a, b⟩ := r.2 i d h; ⟨v, a, b.ext e⟩⟩
theorem EnvR.set {K : PySem.W.Frag} {F : Hp} {ρ : EnvD} {σ : St} (r : EnvR K F ρ σ) {d : D} {v : V} (q : Rep K F d v) (i : Nat) : EnvR K F (ρ.set i (some d)) (σ.set i (some v)) := by
  refine ⟨by simp [r.1], fun j x e => ?_⟩
  by_cases c : i = j
  · subst c
    by_cases l : i < ρ.length
    · rw [List.getElem?_set_self l] at e; cases e
      exact ⟨v, List.getElem?_set_self (by rw [r.1]; exact l), q⟩
    · rw [List.getElem?_eq_none (by simpa using l)] at e; cases e
  · rw [List.getElem?_set_ne c] at e ⊢
    exact r.2 j x e
theorem RepE.env {K : PySem.W.Frag} {F : Hp} : ∀ {ρ : EnvD} {σ : St}, RepE K F ρ σ → EnvR K F ρ σ
  | _, _, .nil => ⟨rfl, fun i d h => by simp at h⟩
  | _, _, .none t => by
    obtain ⟨l, h⟩ := RepE.env t
    refine ⟨by simp [l], fun i d e => ?_⟩
    cases i with
    | zero => simp at e
    | succ i => simpa using h i d (by simpa using e)
  | _, _, .cons (v := v) r t => by
    obtain ⟨l, h⟩ := RepE.env t
    refine ⟨by simp [l], fun i d e => ?_⟩
    cases i with
    | zero =>
      obtain rfl := Option.some.inj (Option.some.inj (by simpa using e))
      exact ⟨v, by simp, r⟩
    | succ i => simpa using h i d (by simpa using e)
theorem EnvR.rep {K : PySem.W.Frag} {F : Hp} : ∀ {ρ : EnvD} {σ : St}, EnvR K F ρ σ → RepE K F ρ σ
  | [], σ, ⟨l, _⟩ => by
    cases σ with
    | nil => exact .nil
    | cons _ _ => cases l
  | x :: ρ, σ, ⟨l, h⟩ => by
    cases σ with
    | nil => cases l
    | cons v σ =>
      have t : RepE K F ρ σ := EnvR.rep ⟨by simpa using l, fun i d e => by simpa using h (i + 1) d (by simpa using e)⟩
      cases x with
      | none => exact .none t
      | some d =>
        obtain ⟨v', e, r⟩ := h 0 d (by simp)
        obtain rfl : v = some v' := by simpa using e
        exact .cons r t
/-! ### exceptions -/
inductive DX where
  | own (C : Addr) (fs : List (Str × D)) | blt (n : String)
def RepX (K : PySem.W.Frag) (F H : Hp) : DX → Value → Option Addr → Prop
  | .own C fs, cls, d => cls = .ref C ∧ ((fs = [] ∧ d = none) ∨ ∃ dd vs, d = some dd ∧ H dd = some (.xd vs) ∧ RepF K F fs vs)
  | .blt n, cls, _ => cls = .type n
abbrev KD := D → AH → Prop
abbrev KX := DX → AH → Prop
abbrev WE := EnvD → AH → KD → KX → Prop
abbrev WT := EnvD → AH → (Bool → AH → Prop) → KX → Prop
abbrev WA := EnvD → AH → (List D → AH → Prop) → KX → Prop
structure EndsD where
  nx : EnvD → AH → Prop
  rt : KD
  bk : EnvD → AH → Prop := fun _ _ => False
  ct : EnvD → AH → Prop := fun _ _ => False
  ex : KX
abbrev WS := EndsD → EnvD → AH → Prop
/-! ### the lifts -/
def LQ (K : PySem.W.Frag) (F : Hp) (Q : VK) : KD := fun d h' => ∀ F' H' v, Ext F F' → Sim K F' h' H' → Rep K F' d v → Q v H'
def LB (K : PySem.W.Frag) (F : Hp) (Q : Bool → Hp → Prop) : Bool → AH → Prop := fun b h' => ∀ F' H', Ext F F' → Sim K F' h' H' → Q b H'
def LA (K : PySem.W.Frag) (F : Hp) (Q : List V → Hp → Prop) : List D → AH → Prop := fun ds h' => ∀ F' H' vs, Ext F F' → Sim K F' h' H' → Reps K F' ds vs → Q vs H'
def LS (K : PySem.W.Frag) (F : Hp) (Q : St → Hp → Prop) : EnvD → AH → Prop := fun ρ' h' => ∀ F' H' σ', Ext F F' → Sim K F' h' H' → EnvR K F' ρ' σ' → Q σ' H'
def LX (K : PySem.W.Frag) (F : Hp) (E : XK) : KX := fun x h' => ∀ F' H' cls d, Ext F F' → Sim K F' h' H' → RepX K F' H' x cls d → E cls d H'
def LD (K : PySem.W.Frag) (F : Hp) (D : Ends) (E : XK) : EndsD := { nx := LS K F D.nx, rt := LQ K F D.rt, bk := LS K F D.bk, ct := LS K F D.ct, ex := LX K F E }
section
variable {K : PySem.W.Frag} {F F' : Hp}
theorem LQ.ext (e : Ext F F') {Q : VK} {d : D} {h : AH} (q : LQ K F Q d h) : LQ K F' Q d h := fun G H v a b c => q G H v (e.trans a) b c
theorem LB.ext (e : Ext F F') {Q : Bool → Hp → Prop} {d : Bool} {h : AH} (q : LB K F Q d h) : LB K F' Q d h := fun G H a b => q G H (e.trans a) b
theorem LA.ext (e : Ext F F') {Q : List V → Hp → Prop} {d : List D} {h : AH} (q : LA K F Q d h) : LA K F' Q d h := fun G H v a b c => q G H v (e.trans a) b c
theorem LS.ext (e : Ext F F') {Q : St → Hp → Prop} {d : EnvD} {h : AH} (q : LS K F Q d h) : LS K F' Q d h := fun G H v a b c => q G H v (e.trans a) b c
theorem LX.ext (e : Ext F F') {E : XK} {d : DX} {h : AH} (q : LX K F E d h) : LX K F' E d h := fun G H v w a b c => q G H v w (e.trans a) b c
end
def tE (K : PySem.W.Frag) (E : XK) (w : WE) : TE := fun σ H Q => ∃ F ρ h, Sim K F h H ∧ EnvR K F ρ σ ∧ w ρ h (LQ K F Q) (LX K F E)
def tT (K : PySem.W.Frag) (E : XK) (w : WT) : TT := fun σ H Q => ∃ F ρ h, Sim K F h H ∧ EnvR K F ρ σ ∧ w ρ h (LB K F Q) (LX K F E)
def tA (K : PySem.W.Frag) (E : XK) (w : WA) : TA := fun σ H Q => ∃ F ρ h, Sim K F h H ∧ EnvR K F ρ σ ∧ w ρ h (LA K F Q) (LX K F E)
def tS (K : PySem.W.Frag) (E : XK) (w : WS) : TS := fun D σ H => ∃ F ρ h, Sim K F h H ∧ EnvR K F ρ σ ∧ w (LD K F D E) ρ h
structure EndsD.Le (D D' : EndsD) : Prop where
  nx : ∀ ρ h, D.nx ρ h → D'.nx ρ h
  rt : ∀ d h, D.rt d h → D'.rt d h
  bk : ∀ ρ h, D.bk ρ h → D'.bk ρ h
  ct : ∀ ρ h, D.ct ρ h → D'.ct ρ h
  ex : ∀ x h, D.ex x h → D'.ex x h
theorem LD.ext {K : PySem.W.Frag} {F F' : Hp} (e : Ext F F') {D : Ends} {E : XK} : (LD K F D E).Le (LD K F' D E) :=
  ⟨fun _ _ q => LS.ext e q, fun _ _ q => LQ.ext e q, fun _ _ q => LS.ext e q, fun _ _ q => LS.ext e q, fun _ _ q => LX.ext e q⟩
theorem EndsD.Le.refl (D : EndsD) : D.Le D := ⟨fun _ _ q => q, fun _ _ q => q, fun _ _ q => q, fun _ _ q => q, fun _ _ q => q⟩
/-- monotone -/
def MoE (w : WE) : Prop := ∀ ρ h Q Q' X X', (∀ d h, Q d h → Q' d h) → (∀ x h, X x h → X' x h) → w ρ h Q X → w ρ h Q' X'
def MoT (w : WT) : Prop := ∀ ρ h Q Q' X X', (∀ d h, Q d h → Q' d h) → (∀ x h, X x h → X' x h) → w ρ h Q X → w ρ h Q' X'
def MoA (w : WA) : Prop := ∀ ρ h Q Q' X X', (∀ d h, Q d h → Q' d h) → (∀ x h, X x h → X' x h) → w ρ h Q X → w ρ h Q' X'
def MoS (w : WS) : Prop := ∀ D D' ρ h, D.Le D' → w D ρ h → w D' ρ h
/-! ### the judgements -/
structure AE (X : Cx) (E : XK) (e : Expr) (w : WE) : Prop where
  run : PE X e (tE X.K E w)
  mo : MoE w
structure AT (X : Cx) (E : XK) (e : Expr) (w : WT) : Prop where
  run : PT X e (tT X.K E w)
  mo : MoT w
structure AW (X : Cx) (E : XK) (e : Expr) (w : WT) : Prop where
  run : PW X e (tT X.K E w)
  mo : MoT w
structure AA (X : Cx) (E : XK) (es : List Expr) (w : WA) : Prop where
  run : PA X es (tA X.K E w)
  mo : MoA w
structure AS (X : Cx) (E : XK) (st : Stmt) (w : WS) : Prop where
  run : PS X st (tS X.K E w)
  mo : MoS w
structure ASs (X : Cx) (E : XK) (sts : List Stmt) (w : WS) : Prop where
  run : PSs X sts (tS X.K E w)
  mo : MoS w
theorem PE.imp {X : Cx} {e : Expr} {t t' : TE} (p : PE X e t) (h : ∀ σ H Q, t' σ H Q → t σ H Q) : PE X e t' := ⟨fun pins s σ H Q I q => p.run pins s σ H Q I (h _ _ _ q)⟩
theorem PT.imp {X : Cx} {e : Expr} {t t' : TT} (p : PT X e t) (h : ∀ σ H Q, t' σ H Q → t σ H Q) : PT X e t' := ⟨fun pins s σ H Q I q => p.run pins s σ H Q I (h _ _ _ q)⟩
theorem PW.imp {X : Cx} {e : Expr} {t t' : TT} (p : PW X e t) (h : ∀ σ H Q, t' σ H Q → t σ H Q) : PW X e t' := ⟨fun wh pins s σ H Q I q => p.run wh pins s σ H Q I (h _ _ _ q)⟩
theorem PA.imp {X : Cx} {e : List Expr} {t t' : TA} (p : PA X e t) (h : ∀ σ H Q, t' σ H Q → t σ H Q) : PA X e t' := ⟨fun pos pins s σ H Q I q => p.run pos pins s σ H Q I (h _ _ _ q)⟩
theorem PS.imp {X : Cx} {e : Stmt} {t t' : TS} (p : PS X e t) (h : ∀ D σ H, t' D σ H → t D σ H) : PS X e t' := ⟨fun pins s σ H Q I q => p.run pins s σ H Q I (h _ _ _ q)⟩
theorem PSs.imp {X : Cx} {e : List Stmt} {t t' : TS} (p : PSs X e t) (h : ∀ D σ H, t' D σ H → t D σ H) : PSs X e t' := ⟨fun pins s σ H Q I q => p.run pins s σ H Q I (h _ _ _ q)⟩
end DL
namespace DL
open PySem PySem.Spec L2
/-! ### a def's promise over data -/
abbrev FSpec := List D → AH → KD → KX → Prop
def MoF (S : FSpec) : Prop := ∀ ds h Q Q' X X', (∀ d h, Q d h → Q' d h) → (∀ x h, X x h → X' x h) → S ds h Q X → S ds h Q' X'
def spD (K : PySem.W.Frag) (S : FSpec) : Sp := fun vs H Q E => ∃ F ds h, Sim K F h H ∧ Reps K F ds vs ∧ S ds h (LQ K F Q) (LX K F E)
/-- what is asked around a piece of code -/
structure Cg (gz : Bool) (X : Cx) (E : XK) (k : Nat) : Prop where
  room : Room k X.A
  gd : gz = true → X.A.guards = some []
  calm : X.calm = true
  nd : X.N.Nodup
  ps : Passes (L2.CX X.prog X.w) X E
  po : PassesOwn (model X.prog X.w) X.A X.env X.xe
theorem Cg.mono {gz : Bool} {X : Cx} {E : XK} {j k : Nat} (c : Cg gz X E k) (h : j ≤ k) : Cg gz X E j := ⟨c.room.mono h, c.gd, c.calm, c.nd, c.ps, c.po⟩
/-- a def at f keeps its promise: ahead of it no guard runs -/
structure FnG (gz : Bool) (P : Program) (w : World) (K : PySem.W.Frag) (mg : Str → Option Value) (base : Heap) (k : Nat) (f : Addr) (fd : FuncData) (ps : List Str) (S : FSpec) : Prop where
  len : ∀ ds h Q X, S ds h Q X → ds.length = ps.length
  mo : MoF S
  run : ∀ {A : Around} {outer : List Env} {s : Shared} {H : Hp} {args : Args} {us : List Value} {vs : List V} {Q : VK} {E : XK},
    Room k A → (gz = true → A.guards = some []) → Env0 P w K mg base A outer s H → BindsTo s fd args (ps.zip us) → Vals vs us → spD K S vs H Q E →
    codeAny (model P w) A (.call (.ref f) args) (CR (L2.CX P w) outer P w H s Q E) s
theorem FnG.mono {gz : Bool} {P : Program} {w : World} {K : PySem.W.Frag} {mg : Str → Option Value} {base : Heap} {j k : Nat} {f : Addr} {fd : FuncData} {ps : List Str} {S : FSpec}
    (G : FnG gz P w K mg base j f fd ps S) (h : j ≤ k) : FnG gz P w K mg base k f fd ps S :=
  ⟨G.len, G.mo, fun r g e b v q => G.run (r.mono h) g e b v q⟩
theorem spD_len {K : PySem.W.Frag} {S : FSpec} {n : Nat} (l : ∀ ds h Q X, S ds h Q X → ds.length = n) {vs : List V} {H : Hp} {Q : VK} {E : XK} (h : spD K S vs H Q E) : vs.length = n := by
  obtain ⟨F, ds, g, _, r, q⟩ := h
  rw [← r.length]; exact l _ _ _ _ q
/-! ### from a body to the promise -/
/-- what may be told of a result: parts are dropped, a list that stands alone is frozen -/
inductive Fz : D → AH → D → AH → Prop where
  | sub {d : D} {h g : AH} : Sub g h → Fz d h d g
  | lst {a : Addr} {xs : List D} {h g : AH} : h a = some (.lst xs) → g a = none → Sub g h → Fz (.ref a) h (.lst xs) g
  | dK {a : Addr} {xs : List (Key × D)} {h g : AH} : h a = some (.dK xs) → g a = none → Sub g h → Fz (.ref a) h (.dK xs) g
  | dT {a : Addr} {xs : List (List Key × D)} {h g : AH} : h a = some (.dT xs) → g a = none → Sub g h → Fz (.ref a) h (.dT xs) g
  | tup1 {a : Addr} {xs ys : List D} {h g : AH} : h a = some (.lst xs) → g a = none → Sub g h → Fz (.tup (.ref a :: ys)) h (.tup (.lst xs :: ys)) g
  | sem {d d' : D} {h g : AH} : (∀ (K : PySem.W.Frag) (F H : Hp) (v : V), Sim K F h H → Rep K F d v → ∃ F', Ext F F' ∧ Sim K F' g H ∧ Rep K F' d' v) → Fz d h d' g
def fin (Q : KD) : KD := fun d h => ∃ d' g, Fz d h d' g ∧ Q d' g
theorem fin_of {Q : KD} {d : D} {h : AH} (q : Q d h) : fin Q d h := ⟨d, h, .sub (.refl h), q⟩
theorem fin_sub {Q : KD} {d : D} {h g : AH} (s : Sub g h) (q : Q d g) : fin Q d h := ⟨d, g, .sub s, q⟩
/-- a list among the changing ones is made one that does not change -/
theorem Sim.frz {K : PySem.W.Frag} {F : Hp} {h g : AH} {H : Hp} {a : Addr} {o : AO} {u : HO} (S : Sim K F h H) (e : h a = some o) (eu : H a = some u) (n : g a = none) (s : Sub g h) : Ext F (upd F a u) ∧ Sim K (upd F a u) g H := by
  obtain ⟨f, _⟩ := S.ob _ _ e
  refine ⟨ext_upd f, fun b v q => ?_, fun b v q => ?_⟩
  · by_cases c : b = a
    · subst c; rw [upd_same] at q; cases q; exact eu
    · rw [upd_ne c] at q; exact S.fz _ _ q
  · have c : b ≠ a := by rintro rfl; rw [n] at q; cases q
    obtain ⟨f1, w, hw, r⟩ := S.ob _ _ (s _ _ q)
    exact ⟨by rw [upd_ne c]; exact f1, w, hw, r.ext (ext_upd f)⟩
theorem LQ.fin {K : PySem.W.Frag} {F : Hp} {Q : VK} {d : D} {h : AH} (q : fin (LQ K F Q) d h) : LQ K F Q d h := by
  intro F' H' v e S r
  obtain ⟨d', g, z, q⟩ := q
  cases z with
  | sub s => exact q F' H' v e (S.sub s) r
  | @lst a xs _ _ ha hg s =>
    cases r
    obtain ⟨f, u, hu, vs, rfl, rs⟩ := S.ob _ _ ha
    obtain ⟨e2, S2⟩ := S.frz ha hu hg s
    exact q _ _ _ (e.trans e2) S2 (.lst upd_same (rs.ext e2))
  | @dK a xs _ _ ha hg s =>
    cases r
    obtain ⟨f, u, hu, vs, rfl, rs⟩ := S.ob _ _ ha
    obtain ⟨e2, S2⟩ := S.frz ha hu hg s
    exact q _ _ _ (e.trans e2) S2 (.dK upd_same (rs.ext e2))
  | @dT a xs _ _ ha hg s =>
    cases r
    obtain ⟨f, u, hu, vs, rfl, rs⟩ := S.ob _ _ ha
    obtain ⟨e2, S2⟩ := S.frz ha hu hg s
    exact q _ _ _ (e.trans e2) S2 (.dT upd_same (rs.ext e2))
  | @tup1 a xs ys _ _ ha hg s =>
    cases r with
    | tup hq rr =>
      cases rr with
      | cons r1 rt =>
        cases r1
        obtain ⟨f, u, hu, vs, rfl, rs⟩ := S.ob _ _ ha
        obtain ⟨e2, S2⟩ := S.frz ha hu hg s
        exact q _ _ _ (e.trans e2) S2 (.tup (e2.sqt hq) (.cons (.lst upd_same (rs.ext e2)) (rt.ext e2)))
  | sem hh =>
    obtain ⟨F2, e2, S2, r2⟩ := hh _ _ _ _ S r
    exact q _ _ _ (e.trans e2) S2 r2
def startD (n : Nat) (ds : List D) : EnvD := ds.map some ++ List.replicate (n - ds.length) none
def endsD (Q : KD) (X : KX) : EndsD := { nx := fun _ h => fin Q .non h, rt := fin Q, ex := X }
theorem start_env {K : PySem.W.Frag} {F : Hp} {N : List Str} {ds : List D} {vs : List V} (r : Reps K F ds vs) : EnvR K F (startD N.length ds) (L2.start N vs) := by
  have l := r.length
  refine ⟨by simp [startD, L2.start, l], fun i d e => ?_⟩
  unfold startD at e
  by_cases c : i < ds.length
  · rw [List.getElem?_append_left (by simpa using c), List.getElem?_map] at e
    cases q : ds[i]? with
    | none => rw [q] at e; cases e
    | some x =>
      rw [q] at e; cases e
      obtain ⟨v, h1, h2⟩ := r.get q
      refine ⟨v, ?_, h2⟩
      unfold L2.start
      rw [List.getElem?_append_left (by rw [List.length_map, ← l]; exact c), List.getElem?_map, h1]
      rfl
  · rw [List.getElem?_append_right (by simpa using c), List.getElem?_replicate] at e
    split at e <;> cases e
section
variable {P : Program} {w : World} {K : PySem.W.Frag} {mg : Str → Option Value} {base : Heap}
/-- THE RULE for a def: its body as a term of rules, and what it computes over data -/
theorem fng_of {gz : Bool} {x qual : Str} {st : Stmt} {f : Addr} {fd : FuncData} {N ps : List Str} {k : Nat} {S : FSpec} {W : WS}
    (F : Fun K x qual st f fd) (sc : FnScope N ps (defScope st)) (len : ∀ ds h Q X, S ds h Q X → ds.length = ps.length) (mo : MoF S)
    (body : ∀ (cdv : Value) (A : Around) (outer : List PySem.Env) (s : Shared) (H : Hp) (E : XK), Cg gz (cxOf (L2.CX P w) P w K mg base N qual (defScope st) f cdv A outer s H E) E k →
      ASs (cxOf (L2.CX P w) P w K mg base N qual (defScope st) f cdv A outer s H E) E (defBody st) W)
    (pure : ∀ ds h Q X, S ds h Q X → W (endsD Q X) (startD N.length ds) h) : FnG gz P w K mg base (k + 1) f fd ps S := by
  refine ⟨len, mo, fun {A outer s H args us vs Q E} hr hg e0 hb hv hs => ?_⟩
  obtain ⟨oc, od, kV, doc, pm, an, cdv, ct, osl, rfl, lk, hcd⟩ := F.ex
  have lenv := spD_len len hs
  have inK : K.In s.heap := e0.mod.kin.keeps fun b o e =>
    (e0.bs b o e).1
  have nol : s.heap.NoLimit := e0.mod.nolimit.keeps fun b o e =>
    (e0.bs b o e).1
  have kinds : ∀ y ∈ ps.zip us, (defScope st).names.lookup y.1 = some .local ∨
      ((defScope st).names.lookup y.1 = some .cell ∧ ((cellsFrom (s.heap.objs.size + 1) (defScope st).names []).lookup y.1).isSome = true) := by
    rintro ⟨n, v⟩ hy
    cases sc.par n (List.of_mem_zip hy).1 with
    | inl q => exact .inl q
    | inr q => exact .inr ⟨q, PySem.W.cellsFrom_some _ _ _ (.inl q)⟩
  refine codeAny_call_function hr.depth (inK _ _ lk) rfl
    sc.co sc.gen rfl (PySem.W.codeRec_of inK hcd) (hb _ _ _ _ ?_)
  refine wpAny_newFunctionEnv_cells sc.kind kinds
    fun env he s1 ic => ?_
  subst he
  refine ⟨nol.keeps ic.toInCall.keep,
    codeAny_func ?_⟩
  have I := inv_start (CX := L2.CX P w) (P := P) (w := w) (mg := mg) (base := base) (E := E) sc hr.hd e0 lenv hv ic
  have c : Cg gz (cxOf (L2.CX P w) P w K mg base N qual (defScope st) f cdv A outer s H E) E k :=
    ⟨hr.deeper _, hg, rfl, sc.nd, passes_call (takes_of rfl rfl rfl rfl) fun _ _ _ _ z => z, passes_of rfl⟩
  obtain ⟨F0, ds, g, S0, r0, q0⟩ := hs
  have B := body cdv A outer s H E c
  have go : tS K E W { nx := fun _ H' => Q .non H', rt := Q } (L2.start N vs) H := by
    refine ⟨F0, _, g, S0, start_env r0, B.mo (endsD (LQ K F0 Q) (LX K F0 E)) _ _ _ ⟨fun ρ h z => ?_, fun d h z => LQ.fin z, fun _ _ z => False.elim z, fun _ _ z => False.elim z, fun _ _ z => z⟩ (pure ds g _ _ q0)⟩
    exact fun F' H' σ' e S' _ => LQ.fin z F' H' .non e S' .non
  refine wpAny_mono (B.run.run [] s1 _ H _ I go) (fun fl s' hq => ?_) fun e s' hq => hq
  cases fl with
  | ret u =>
    obtain ⟨v, σ', H', J, rv, q⟩ := hq
    exact ⟨v, H', J.os, J.bare, J.base, J.hok, rv, q⟩
  | next =>
    obtain ⟨σ', H', J, q⟩ := hq
    exact ⟨.non, H', J.os, J.bare, J.base, J.hok, rfl, q⟩
  | brk => obtain ⟨_, _, _, q⟩ := hq; exact q.elim
  | cont => obtain ⟨_, _, _, q⟩ := hq; exact q.elim
end
/-! ### calls -/
/-- how n positional values and the keywords' values (names ks) come to the parameters -/
structure Bnd (K : PySem.W.Frag) (fd : FuncData) (ps : List Str) (n : Nat) (ks : List Str) (g : List D → List D → List D) : Prop where
  to : ∀ (s : Shared) (F : Hp) (ds zs : List D) (vs ys : List V) (us ws : List Value), K.In s.heap → ds.length = n → zs.length = ks.length →
    Reps K F ds vs → Vals vs us → Reps K F zs ys → Vals ys ws → ∃ xs ts, Reps K F (g ds zs) xs ∧ Vals xs ts ∧ BindsTo s fd ⟨us, ks.zip ws⟩ (ps.zip ts)
theorem Bnd.plain {K : PySem.W.Frag} {fd : FuncData} {ps : List Str} (h : ∀ us : List Value, us.length = ps.length → bindArgs fd ⟨us, []⟩ = pure (ps.zip us)) : Bnd K fd ps ps.length [] (fun ds _ => ds) := by
  refine ⟨fun s F ds zs vs ys us ws X l1 l2 r1 r2 r3 r4 => ⟨vs, us, r1, r2, ?_⟩⟩
  have l : us.length = ps.length := by rw [← r2.length, ← r1.length]; exact l1
  cases zs with
  | cons _ _ => cases l2
  | nil => cases r3; cases r4; exact .of_eq (h us l)
/-- a def that a name of the module holds -/
structure Cal (gz : Bool) (P : Program) (w : World) (K : PySem.W.Frag) (mg : Str → Option Value) (base : Heap) (x : Str) (k n : Nat) (ks : List Str) (g : List D → List D → List D) (S : FSpec) : Prop where
  ex : ∃ f fd ps, mg x = some (.ref f) ∧ PySem.W.keepIn K (.ref f) = true ∧ FnG gz P w K mg base k f fd ps S ∧ Bnd K fd ps n ks g
section
variable {X : Cx} {E : XK} {k n : Nat} {ks : List Str} {g : List D → List D → List D} {S : FSpec} {x : Str} {p pos : Pos} {e : Expr} {es : List Expr} {wa wk : WA}
theorem run_g {gz gy : Bool} {pins : List (Addr × Obj)} {σ : L2.St} {H : Hp} {s : Shared} {Q : VK} {f : Addr} {fd : FuncData} {ps : List Str} {args : Args} {us : List Value} {vs : List V} (c : Cg gz X E k)
    (G : FnG gy X.prog X.w X.K X.mg X.base k f fd ps S) (hz : gy = true → gz = true) (I : Inv X pins σ H s) (hb : BindsTo s fd args (ps.zip us)) (r : Vals vs us) (h : spD X.K S vs H Q E) :
    codeAny (model X.prog X.w) X.A (.call (.ref f) args) (fun r s' => match r with | .ok (.ret u) => EP X pins σ Q u s' | .ok _ => False | .error e => X.xe e s') s := by
  refine codeAny_mono (G.run c.room (fun z => c.gd (hz z)) I.env0 hb r h) fun r s' hq => ?_
  match r, hq with
  | .error e, hq => exact c.ps pins σ H s e s' I hq
  | .ok (.ret u), hq => exact I.after hq
  | .ok .next, hq => exact hq.elim
  | .ok .brk, hq => exact hq.elim
  | .ok .cont, hq => exact hq.elim
end
/-- f(..): n positional values, keywords -/
def wCall (S : FSpec) (n m : Nat) (g : List D → List D → List D) (wa wk : WA) : WE := fun ρ h Q X => wa ρ h (fun ds h1 => wk ρ h1 (fun zs h2 => ds.length = n ∧ zs.length = m ∧ S (g ds zs) h2 Q X) X) X
end DL
namespace DL
open PySem PySem.Spec L2
/-! ### data as the library's own data -/
mutual
def pd : D → PyData
  | .non => .none
  | .bl b => .bool b
  | .int i => .int i
  | .str s => .str s
  | .tup xs => .tuple (pds xs)
  | .tpl xs => .tuple (pds xs)
  | .lst xs => .list (pds xs)
  | .ref _ => .none
  | .ty _ => .none
  | .lk _ => .none
  | .ob _ _ => .none
  | .xob _ _ => .none
  | .lam _ _ _ _ _ => .none
  | .dK _ => .none
  | .dT _ => .none
def pds : List D → List PyData
  | [] => []
  | x :: xs => pd x :: pds xs
end
mutual
def dat : D → Bool
  | .non => true
  | .bl _ => true
  | .int _ => true
  | .str _ => true
  | .tup xs => dats xs
  | .tpl xs => dats xs
  | .lst xs => dats xs
  | .ref _ => false
  | .ty _ => false
  | .lk _ => false
  | .ob _ _ => false
  | .xob _ _ => false
  | .lam _ _ _ _ _ => false
  | .dK _ => false
  | .dT _ => false
def dats : List D → Bool
  | [] => true
  | x :: xs => dat x && dats xs
end
/-- a list or dict that may change, as it stands now -/
def cur (h : AH) : D → D
  | .ref a => match h a with
    | some (.lst xs) => .lst xs
    | some (.dK kvs) => .dK kvs
    | some (.dT kvs) => .dT kvs
    | _ => .ref a
  | d => d
section
variable {K : PySem.W.Frag} {F H : Hp}
theorem sqt_of {a : Addr} {vs : List V} (e : ∀ a o, F a = some o → H a = some o) (h : SqT K F a vs) : SqT K H a vs := Ext.sqt e h
mutual
theorem Rep.dp (e : ∀ a o, F a = some o → H a = some o) : ∀ {d : D} {v : V}, Rep K F d v → dat d = true → Dp K H v (pd d)
  | _, _, .non, _ => by rw [pd]; exact .non
  | _, _, .bl b, _ => by rw [pd]; exact .bl b
  | _, _, .int i, _ => by rw [pd]; exact .int i
  | _, _, .str s, _ => by rw [pd]; exact .str s
  | _, _, .ref a, h => by rw [dat] at h; cases h
  | _, _, .ty n, h => by rw [dat] at h; cases h
  | _, _, .lk _ _, h => by rw [dat] at h; cases h
  | _, _, .ob _ _, h => by rw [dat] at h; cases h
  | _, _, .dK _ _, h => by rw [dat] at h; cases h
  | _, _, .dT _ _, h => by rw [dat] at h; cases h
  | _, _, .tup h r, q => by rw [dat] at q; rw [pd]; exact .tup (sqt_of e h) (Reps.dp e r q)
  | _, _, .tpl h hd r, q => by rw [dat] at q; rw [pd]; exact .tup (sqt_of e (.inl (.inr ⟨_, h⟩))) (Reps.dp e r q)
  | _, _, .lst h r, q => by rw [dat] at q; rw [pd]; exact .lst (.of (e _ _ h)) (Reps.dp e r q)
theorem Reps.dp (e : ∀ a o, F a = some o → H a = some o) : ∀ {ds : List D} {vs : List V}, Reps K F ds vs → dats ds = true → DpAll K H vs (pds ds)
  | _, _, .nil, _ => by rw [pds]; exact .nil
  | _, _, .cons h t, q => by
    rw [dats, Bool.and_eq_true] at q
    rw [pds]; exact .cons (Rep.dp e h q.1) (Reps.dp e t q.2)
end
theorem Sim.curDp {h : AH} (S : Sim K F h H) {d : D} {v : V} (r : Rep K F d v) (q : dat (cur h d) = true) : Dp K H v (pd (cur h d)) := by
  have base : ∀ {d : D} {v : V}, Rep K F d v → dat d = true → Dp K H v (pd d) := fun r q => r.dp S.fz q
  cases r with
  | ref a =>
    cases e : h a with
    | none => simp [cur, e, dat] at q
    | some o =>
      cases o with
      | lst xs =>
        obtain ⟨_, u, hu, vs, rfl, rs⟩ := S.ob _ _ e
        simp only [cur, e, dat] at q
        simp only [cur, e, pd]
        exact .lst (.of hu) (rs.dp S.fz q)
      | dK _ => simp [cur, e, dat] at q
      | dT _ => simp [cur, e, dat] at q
      | ins _ _ => simp [cur, e, dat] at q
      | lck _ => simp [cur, e, dat] at q
      | lckK _ _ => simp [cur, e, dat] at q
      | tab _ => simp [cur, e, dat] at q
  | non => exact base .non q
  | bl b => exact base (.bl b) q
  | int i => exact base (.int i) q
  | str s => exact base (.str s) q
  | ty n => exact base (.ty n) q
  | tup h r => exact base (.tup h r) q
  | tpl h hd r => exact base (.tpl h hd r) q
  | lst h r => exact base (.lst h r) q
  | dK h r => exact base (.dK h r) q
  | dT h r => exact base (.dT h r) q
  | lk h r => exact base (.lk h r) q
  | ob h r => exact base (.ob h r) q
  | xob0 h => exact base (.xob0 h) q
  | lam h r => exact base (.lam h r) q
  | xob h hd r => exact base (.xob h hd r) q
end
/-! ### lists -/
def lstOf (h : AH) : D → Option (List D)
  | .lst xs => some xs
  | .ref a => match h a with
    | some (.lst xs) => some xs
    | _ => none
  | _ => none
def seqOf (h : AH) : D → Option (List D)
  | .tup xs => some xs
  | .tpl xs => some xs
  | d => lstOf h d
def newL (m : Bool) (xs : List D) (h : AH) (Q : KD) : Prop := if m = true then ∀ p, h p = none → Q (.ref p) (up h p (.lst xs)) else Q (.lst xs) h
section
variable {K : PySem.W.Frag} {F : Hp} {h : AH} {H : Hp} {d : D} {v : V} {xs : List D}
theorem Sim.lstOf (S : Sim K F h H) (r : Rep K F d v) (e : lstOf h d = some xs) : ∃ a vs, v = .ref a ∧ H a = some (.lst vs) ∧ Reps K F xs vs := by
  cases r with
  | ref a =>
    cases q : h a with
    | none => simp [DL.lstOf, q] at e
    | some o =>
      cases o with
      | lst ys =>
        simp only [DL.lstOf, q, Option.some.injEq] at e
        subst e
        obtain ⟨_, u, hu, vs, rfl, rs⟩ := S.ob _ _ q
        exact ⟨a, vs, rfl, hu, rs⟩
      | dK _ => simp [DL.lstOf, q] at e
      | dT _ => simp [DL.lstOf, q] at e
      | ins _ _ => simp [DL.lstOf, q] at e
      | lck _ => simp [DL.lstOf, q] at e
      | lckK _ _ => simp [DL.lstOf, q] at e
      | tab _ => simp [DL.lstOf, q] at e
  | @lst a ys vs hf rs =>
    cases e
    exact ⟨a, vs, rfl, S.fz _ _ hf, rs⟩
  | non => cases e
  | bl _ => cases e
  | int _ => cases e
  | str _ => cases e
  | ty _ => cases e
  | lk _ _ => cases e
  | ob _ _ => cases e
  | xob0 _ => cases e
  | lam _ _ => cases e
  | xob _ _ _ => cases e
  | tup _ _ => cases e
  | tpl _ _ _ => cases e
  | dK _ _ => cases e
  | dT _ _ => cases e
theorem Sim.seqOf (S : Sim K F h H) (r : Rep K F d v) (e : seqOf h d = some xs) : ∃ a vs, v = .ref a ∧ (SqL K H a vs ∨ SqT K H a vs) ∧ Reps K F xs vs := by
  by_cases c : ∃ ys, d = .tup ys
  · obtain ⟨ys, rfl⟩ := c
    cases r with
    | @tup a _ vs hf rs =>
      cases e
      exact ⟨a, vs, rfl, .inr (sqt_of S.fz hf), rs⟩
  by_cases c2 : ∃ ys, d = .tpl ys
  · obtain ⟨ys, rfl⟩ := c2
    cases r with
    | @tpl a _ _ vs hf _ rs =>
      cases e
      exact ⟨a, vs, rfl, .inr (sqt_of S.fz (.inl (.inr ⟨_, hf⟩))), rs⟩
  · have e' : DL.lstOf h d = some xs := by
      cases d <;> first | exact e | exact absurd ⟨_, rfl⟩ c | exact absurd ⟨_, rfl⟩ c2
    obtain ⟨a, vs, r1, r2, r3⟩ := S.lstOf r e'
    exact ⟨a, vs, r1, .inl (.of r2), r3⟩
theorem Sim.newL {m : Bool} {vs : List V} {Q : VK} (S : Sim K F h H) (r : Reps K F xs vs) (q : newL m xs h (LQ K F Q)) : ∀ p, H p = none → Q (.ref p) (upd H p (.lst vs)) := by
  intro p hp
  obtain ⟨f, g⟩ := S.free hp
  unfold DL.newL at q
  split at q
  · exact q p g F _ _ (.refl F) (S.newM hp ⟨vs, rfl, r⟩) (.ref p)
  · exact q _ _ _ (ext_upd f) (S.newF hp _) (.lst upd_same (r.ext (ext_upd f)))
theorem newL_mo {m : Bool} {Q Q' : KD} (hq : ∀ d h, Q d h → Q' d h) (q : newL m xs h Q) : newL m xs h Q' := by
  unfold newL at *
  split at q
  · rename_i c; rw [if_pos c]; exact fun p e => hq _ _ (q p e)
  · rename_i c; rw [if_neg c]; exact hq _ _ q
@[simp] theorem newL_t {Q : KD} : newL true xs h Q = ∀ p, h p = none → Q (.ref p) (up h p (.lst xs)) := by simp [newL]
@[simp] theorem newL_f {Q : KD} : newL false xs h Q = Q (.lst xs) h := by simp [newL]
/-- a new tuple -/
theorem Sim.newT {vs : List V} {Q : VK} (S : Sim K F h H) (r : Reps K F xs vs) (q : LQ K F Q (.tup xs) h) : ∀ p, H p = none → Q (.ref p) (upd H p (.tup vs)) := by
  intro p hp
  obtain ⟨f, g⟩ := S.free hp
  exact q _ _ _ (ext_upd f) (S.newF hp _) (.tup (.of upd_same) (r.ext (ext_upd f)))
theorem LQ.at {Q : VK} (q : LQ K F Q d h) (S : Sim K F h H) (r : Rep K F d v) : Q v H := q F H v (.refl F) S r
end
/-! ### operators over data -/
structure OpD (K : PySem.W.Frag) (r : V → V → Hp → VK → Prop) (f : D → D → AH → KD → Prop) : Prop where
  to : ∀ {F h H x y vx vy} {Q : VK}, Sim K F h H → Rep K F x vx → Rep K F y vy → f x y h (LQ K F Q) → r vx vy H Q
  mo : ∀ {x y h} {Q Q' : KD}, (∀ d h, Q d h → Q' d h) → f x y h Q → f x y h Q'
def MulOk (i j : Int) : Prop := (-(2 ^ 64) < i ∧ i < 2 ^ 64) ∨ (-(2 ^ 64) < j ∧ j < 2 ^ 64) ∨ i.natAbs.log2 + j.natAbs.log2 < 1000000
def DivOk (j : Int) : Prop := 0 < j ∧ (j < 1073741824 ∨ j.natAbs.log2 < 9000)
def PowOk (i j : Int) : Prop := 0 ≤ j ∧ j ≤ 1000000 ∧ i.natAbs < 2 ^ 64
def dAdd (m : Bool) (x y : D) (h : AH) (Q : KD) : Prop := match x, y with
  | .int i, .int j => Q (.int (i + j)) h
  | .str a, .str b => a.length + b.length ≤ sizeLine ∧ Q (.str (a ++ b)) h
  | .tup xs, .tup ys => xs.length + ys.length ≤ sizeLine ∧ Q (.tup (xs ++ ys)) h
  | x, y => ∃ xs ys, lstOf h x = some xs ∧ lstOf h y = some ys ∧ xs.length + ys.length ≤ sizeLine ∧ newL m (xs ++ ys) h Q
def dSub (x y : D) (h : AH) (Q : KD) : Prop := match x, y with
  | .int i, .int j => Q (.int (i - j)) h
  | _, _ => False
def dMul (m : Bool) (x y : D) (h : AH) (Q : KD) : Prop := match x, y with
  | .int i, .int j => MulOk i j ∧ Q (.int (i * j)) h
  | x, .int k => ∃ xs, lstOf h x = some xs ∧ k < 2 ^ 62 ∧ -(2 ^ 62) < k ∧ xs.length * k.toNat ≤ sizeLine ∧ newL m (List.replicate k.toNat xs).flatten h Q
  | _, _ => False
def dDiv (x y : D) (h : AH) (Q : KD) : Prop := match x, y with
  | .int i, .int j => DivOk j ∧ Q (.int (i / j)) h
  | _, _ => False
def dMod (x y : D) (h : AH) (Q : KD) : Prop := match x, y with
  | .int i, .int j => 0 < j ∧ Q (.int (i % j)) h
  | _, _ => False
def dPow (x y : D) (h : AH) (Q : KD) : Prop := match x, y with
  | .int i, .int j => PowOk i j ∧ Q (.int (i ^ j.toNat)) h
  | _, _ => False
def dCmpI (f : Int → Int → Bool) (x y : D) (h : AH) (Q : KD) : Prop := match x, y with
  | .int i, .int j => Q (.bl (f i j)) h
  | _, _ => False
/-- == of data -/
def dEq (f : Bool → Bool) (x y : D) (h : AH) (Q : KD) : Prop := match x, y with
  | .int i, .int j => Q (.bl (f (decide (i = j)))) h
  | .str i, .str j => Q (.bl (f (decide (i = j)))) h
  | .bl i, .bl j => Q (.bl (f (decide (i = j)))) h
  | x, y => dat (cur h x) = true ∧ dat (cur h y) = true ∧ SeqAt.shaped (pd (cur h x)) = true ∧ SeqAt.shaped (pd (cur h y)) = true ∧ Q (.bl (f (PyData.eqv (pd (cur h x)) (pd (cur h y))))) h
def dIsN (f : Bool → Bool) (x y : D) (h : AH) (Q : KD) : Prop := match x, y with
  | .non, .non => Q (.bl (f true)) h
  | .bl i, .bl j => Q (.bl (f (decide (i = j)))) h
  | _, .non => Q (.bl (f false)) h
  | _, _ => False
section
variable {X : Cx}
/-- the rule of values that a D-operator stands on -/
def rMul (K : PySem.W.Frag) : R2 := fun x y H Q => rI CMul (fun i j => .int (i * j)) x y H Q ∨ rI CMulW (fun i j => .int (i * j)) x y H Q ∨ rRep x y H Q
theorem op_mulD : OpR X (binaryOp .Mult) (rMul X.K) := OpR.or op_mul (OpR.or op_mulW op_rep)
theorem dMul_ok {K : PySem.W.Frag} {m : Bool} : OpD K (rMul K) (dMul m) where
  to := by
    intro F h H x y vx vy Q S rx ry q
    unfold dMul at q
    split at q
    · cases rx; cases ry
      obtain ⟨c, q⟩ := q
      rcases c with c | c | c
      · exact .inl ⟨_, _, rfl, rfl, .inl c, q.at S (.int _)⟩
      · exact .inl ⟨_, _, rfl, rfl, .inr c, q.at S (.int _)⟩
      · exact .inr (.inl ⟨_, _, rfl, rfl, c, q.at S (.int _)⟩)
    · obtain ⟨xs, e, c1, c2, l, q⟩ := q
      obtain ⟨a, vs, rfl, ha, rs⟩ := S.lstOf rx e
      cases ry
      refine .inr (.inr ⟨a, _, vs, rfl, rfl, ha, by omega, by omega, by rw [← rs.length]; exact l, S.newL (vs := (List.replicate _ vs).flatten) ?_ q⟩)
      generalize Int.toNat _ = n
      induction n with
      | zero => exact .nil
      | succ n ih => rw [List.replicate_succ, List.replicate_succ, List.flatten_cons, List.flatten_cons]; exact rs.append ih
    · exact q.elim
  mo := by
    intro x y h Q Q' hq q
    unfold dMul at *
    split at q
    · exact ⟨q.1, hq _ _ q.2⟩
    · obtain ⟨xs, e, c1, c2, l, q⟩ := q
      exact ⟨xs, e, c1, c2, l, newL_mo hq q⟩
    · exact q.elim
def rAddD (K : PySem.W.Frag) : R2 := fun x y H Q => rI0 (fun i j => .int (i + j)) x y H Q ∨ (∃ i j, x = .str i ∧ y = .str j ∧ i.length + j.length ≤ sizeLine ∧ Q (.str (i ++ j)) H) ∨ rCatA K x y H Q ∨ rCat x y H Q
theorem op_addD : OpR X (binaryOp .Add) (rAddD X.K) := OpR.or op_add (OpR.or op_add_str (OpR.or op_catA op_cat))
theorem reps_nil {K : PySem.W.Frag} {F : Hp} {xs : List D} {vs : List V} (r : Reps K F xs vs) : vs = [] ↔ xs = [] := by
  cases r <;> simp
theorem dAdd_ok {K : PySem.W.Frag} {m : Bool} : OpD K (rAddD K) (dAdd m) where
  to := by
    intro F h H x y vx vy Q S rx ry q
    unfold dAdd at q
    split at q
    · cases rx; cases ry
      exact .inl ⟨_, _, rfl, rfl, q.at S (.int _)⟩
    · cases rx; cases ry
      exact .inr (.inl ⟨_, _, rfl, rfl, q.1, q.2.at S (.str _)⟩)
    · cases rx with
      | @tup a xs vs ha rs =>
      cases ry with
      | @tup b ys ws hb rt =>
      obtain ⟨l, q⟩ := q
      refine .inr (.inr (.inl ⟨a, b, vs, ws, rfl, rfl, sqt_of S.fz ha, sqt_of S.fz hb, by rw [← rs.length, ← rt.length]; exact l, fun e => ?_, fun _ e => ?_, fun _ _ => S.newT (rs.append rt) q⟩))
      · rw [(reps_nil rs).mp e, List.nil_append] at q
        exact q.at S (.tup hb rt)
      · rw [(reps_nil rt).mp e, List.append_nil] at q
        exact q.at S (.tup ha rs)
    · obtain ⟨xs, ys, e1, e2, l, q⟩ := q
      obtain ⟨a, vs, rfl, ha, rs⟩ := S.lstOf rx e1
      obtain ⟨b, ws, rfl, hb, rt⟩ := S.lstOf ry e2
      exact .inr (.inr (.inr ⟨a, b, vs, ws, rfl, rfl, ha, hb, by rw [← rs.length, ← rt.length]; exact l, S.newL (rs.append rt) q⟩))
  mo := by
    intro x y h Q Q' hq q
    unfold dAdd at *
    split at q
    · exact hq _ _ q
    · exact ⟨q.1, hq _ _ q.2⟩
    · exact ⟨q.1, hq _ _ q.2⟩
    · obtain ⟨xs, ys, e1, e2, l, q⟩ := q
      exact ⟨xs, ys, e1, e2, l, newL_mo hq q⟩
theorem dSub_ok {K : PySem.W.Frag} : OpD K (rI0 fun i j => .int (i - j)) dSub where
  to := by
    intro F h H x y vx vy Q S rx ry q
    unfold dSub at q
    split at q
    · cases rx; cases ry; exact ⟨_, _, rfl, rfl, q.at S (.int _)⟩
    · exact q.elim
  mo := by
    intro x y h Q Q' hq q
    unfold dSub at *
    split at q
    · exact hq _ _ q
    · exact q.elim
def rDivD : R2 := fun x y H Q => rI CDiv (fun i j => .int (i / j)) x y H Q ∨ rI CDivW (fun i j => .int (i / j)) x y H Q
theorem op_divD : OpR X (binaryOp .FloorDiv) rDivD := OpR.or op_fdiv op_fdivW
theorem dDiv_ok {K : PySem.W.Frag} : OpD K rDivD dDiv where
  to := by
    intro F h H x y vx vy Q S rx ry q
    unfold dDiv at q
    split at q
    · cases rx; cases ry
      obtain ⟨⟨c0, c⟩, q⟩ := q
      rcases c with c | c
      · exact .inl ⟨_, _, rfl, rfl, ⟨c0, c⟩, q.at S (.int _)⟩
      · exact .inr ⟨_, _, rfl, rfl, ⟨c0, c⟩, q.at S (.int _)⟩
    · exact q.elim
  mo := by
    intro x y h Q Q' hq q
    unfold dDiv at *
    split at q
    · exact ⟨q.1, hq _ _ q.2⟩
    · exact q.elim
theorem dMod_ok {K : PySem.W.Frag} : OpD K (rI (fun _ j => 0 < j) fun i j => .int (i % j)) dMod where
  to := by
    intro F h H x y vx vy Q S rx ry q
    unfold dMod at q
    split at q
    · cases rx; cases ry; exact ⟨_, _, rfl, rfl, q.1, q.2.at S (.int _)⟩
    · exact q.elim
  mo := by
    intro x y h Q Q' hq q
    unfold dMod at *
    split at q
    · exact ⟨q.1, hq _ _ q.2⟩
    · exact q.elim
theorem dPow_ok {K : PySem.W.Frag} : OpD K (rI CPow fun i j => .int (i ^ j.toNat)) dPow where
  to := by
    intro F h H x y vx vy Q S rx ry q
    unfold dPow at q
    split at q
    · cases rx; cases ry; exact ⟨_, _, rfl, rfl, q.1, q.2.at S (.int _)⟩
    · exact q.elim
  mo := by
    intro x y h Q Q' hq q
    unfold dPow at *
    split at q
    · exact ⟨q.1, hq _ _ q.2⟩
    · exact q.elim
theorem dCmpI_ok {K : PySem.W.Frag} {f : Int → Int → Bool} : OpD K (rI0 fun i j => .bl (f i j)) (dCmpI f) where
  to := by
    intro F h H x y vx vy Q S rx ry q
    unfold dCmpI at q
    split at q
    · cases rx; cases ry; exact ⟨_, _, rfl, rfl, q.at S (.bl _)⟩
    · exact q.elim
  mo := by
    intro x y h Q Q' hq q
    unfold dCmpI at *
    split at q
    · exact hq _ _ q
    · exact q.elim
def rEqF (K : PySem.W.Frag) (f : Bool → Bool) : R2 := fun x y H Q => (scal x y = true ∧ Q (.bl (f (decide (x = y)))) H) ∨ ∃ d e, Dp K H x d ∧ Dp K H y e ∧ SeqAt.shaped d = true ∧ SeqAt.shaped e = true ∧ Q (.bl (f (PyData.eqv d e))) H
theorem op_eqF (hu : X.A.units + 64 < cLine) : OpR X (compareOp .Eq) (rEqF X.K fun b => b) := OpR.or op_eq (op_eqD hu)
theorem op_neF (hu : X.A.units + 64 < cLine) : OpR X (compareOp .NotEq) (rEqF X.K fun b => !b) := OpR.or op_ne (op_neD hu)
theorem dec_int {i j : Int} : decide (V.int i = V.int j) = decide (i = j) := by simp
theorem dec_str {i j : Str} : decide (V.str i = V.str j) = decide (i = j) := by simp
theorem dec_bl {i j : Bool} : decide (V.bl i = V.bl j) = decide (i = j) := by simp
theorem dEq_ok {K : PySem.W.Frag} {f : Bool → Bool} : OpD K (rEqF K f) (dEq f) where
  to := by
    intro F h H x y vx vy Q S rx ry q
    unfold dEq at q
    split at q
    · cases rx; cases ry; exact .inl ⟨rfl, by rw [dec_int]; exact q.at S (.bl _)⟩
    · cases rx; cases ry; exact .inl ⟨rfl, by rw [dec_str]; exact q.at S (.bl _)⟩
    · cases rx; cases ry; exact .inl ⟨rfl, by rw [dec_bl]; exact q.at S (.bl _)⟩
    · obtain ⟨c1, c2, c3, c4, q⟩ := q
      exact .inr ⟨_, _, S.curDp rx c1, S.curDp ry c2, c3, c4, q.at S (.bl _)⟩
  mo := by
    intro x y h Q Q' hq q
    unfold dEq at *
    split at q
    · exact hq _ _ q
    · exact hq _ _ q
    · exact hq _ _ q
    · obtain ⟨c1, c2, c3, c4, q⟩ := q
      exact ⟨c1, c2, c3, c4, hq _ _ q⟩
def rIsF (f : Bool → Bool) : R2 := fun x y H Q => (y = .non ∧ Q (.bl (f (decide (x = .non)))) H) ∨ ∃ a b : Bool, x = .bl a ∧ y = .bl b ∧ Q (.bl (f (decide (a = b)))) H
theorem op_isF : OpR X (compareOp .Is) (rIsF fun b => b) := OpR.or op_isN op_isBl
theorem op_notF : OpR X (compareOp .IsNot) (rIsF fun b => !b) := OpR.or op_notN op_notBl
theorem Rep.nonv {K : PySem.W.Frag} {F : Hp} {d : D} {v : V} (r : Rep K F d v) (h : d ≠ .non) : v ≠ .non := by
  cases r <;> first | exact absurd rfl h | (intro z; cases z)
theorem dIsN_ok {K : PySem.W.Frag} {f : Bool → Bool} : OpD K (rIsF f) (dIsN f) where
  to := by
    intro F h H x y vx vy Q S rx ry q
    unfold dIsN at q
    split at q
    · cases rx; cases ry; exact .inl ⟨rfl, q.at S (.bl _)⟩
    · cases rx; cases ry; exact .inr ⟨_, _, rfl, rfl, q.at S (.bl _)⟩
    · rename_i hx _
      cases ry
      have n : vx ≠ .non := rx.nonv (by intro e; subst e; simp_all)
      exact .inl ⟨rfl, by rw [decide_eq_false n]; exact q.at S (.bl _)⟩
    · exact q.elim
  mo := by
    intro x y h Q Q' hq q
    unfold dIsN at *
    split at q
    · exact hq _ _ q
    · exact hq _ _ q
    · exact hq _ _ q
    · exact q.elim
end
end DL
namespace DL
open PySem PySem.Spec L2
/-! ### expressions over data -/
def wC (d : D) : WE := fun _ h Q _ => Q d h
def wVar (i : Nat) : WE := fun ρ h Q _ => match ρ[i]? with
  | some (some d) => Q d h
  | _ => False
def wOp (f : D → D → AH → KD → Prop) (a b : WE) : WE := fun ρ h Q X => a ρ h (fun x h1 => b ρ h1 (fun y h2 => f x y h2 Q) X) X
def wNeg (a : WE) : WE := fun ρ h Q X => a ρ h (fun x h1 => match x with
  | .int i => Q (.int (-i)) h1
  | _ => False) X
def wChain (f g : D → D → AH → KD → Prop) (a b c : WE) : WE := fun ρ h Q X => a ρ h (fun x h1 => b ρ h1 (fun y h2 => f x y h2 fun z h3 => match z with
  | .bl k => if k = true then c ρ h3 (fun u h4 => g y u h4 Q) X else Q (.bl false) h3
  | _ => False) X) X
def wTest (a : WE) : WT := fun ρ h Q X => a ρ h (fun x h1 => match x with
  | .bl b => Q b h1
  | _ => False) X
def truD (h : AH) (x : D) : Option Bool := match cur h x with
  | .non => some false
  | .bl b => some b
  | .int i => some (i != 0)
  | .tup xs => some (!xs.isEmpty)
  | .tpl xs => some (!xs.isEmpty)
  | .lst xs => some (!xs.isEmpty)
  | .dK xs => some (!xs.isEmpty)
  | _ => none
def wTruth (a : WE) : WT := fun ρ h Q X => a ρ h (fun x h1 => ∃ k, truD h1 x = some k ∧ Q k h1) X
def wAnd (a b : WT) : WT := fun ρ h Q X => a ρ h (fun c h1 => if c = true then b ρ h1 Q X else Q false h1) X
def wOr (a b : WT) : WT := fun ρ h Q X => a ρ h (fun c h1 => if c = true then Q true h1 else b ρ h1 Q X) X
def wNot (a : WT) : WT := fun ρ h Q X => a ρ h (fun c h1 => Q (!c) h1) X
def wAndV (a b : WE) : WE := fun ρ h Q X => a ρ h (fun x h1 => match x with
  | .bl c => if c = true then b ρ h1 Q X else Q (.bl false) h1
  | _ => False) X
def wNotV (a : WE) : WE := fun ρ h Q X => a ρ h (fun x h1 => match x with
  | .bl c => Q (.bl (!c)) h1
  | _ => False) X
def wIf (t : WT) (a b : WE) : WE := fun ρ h Q X => t ρ h (fun c h1 => if c = true then a ρ h1 Q X else b ρ h1 Q X) X
def wNil : WA := fun _ h Q _ => Q [] h
def wCons (a : WE) (r : WA) : WA := fun ρ h Q X => a ρ h (fun x h1 => r ρ h1 (fun xs h2 => Q (x :: xs) h2) X) X
def wTup (a : WA) : WE := fun ρ h Q X => a ρ h (fun xs h1 => xs.length ≤ sizeLine ∧ Q (.tup xs) h1) X
def wLst (m : Bool) (a : WA) : WE := fun ρ h Q X => a ρ h (fun xs h1 => xs.length ≤ sizeLine ∧ newL m xs h1 Q) X
def wCallP (S : FSpec) (n : Nat) (g : List D → List D → List D) (wa : WA) : WE := fun ρ h Q X => wa ρ h (fun ds h1 => ds.length = n ∧ S (g ds []) h1 Q X) X
/-- a built-in -/
def wB (r : List D → AH → KD → Prop) (a : WA) : WE := fun ρ h Q X => a ρ h (fun xs h1 => r xs h1 Q) X
section
variable {X : Cx} {E : XK} {k : Nat} {a b e : Expr} {es : List Expr} {wa wb wc : WE} {ta tb : WT} {wl : WA} {pos : Pos}
theorem ae_c {v : V} {d : D} (h : PE X e (tC v)) (r : ∀ F, Rep X.K F d v) : AE X E e (wC d) := by
  refine ⟨PE.imp h fun σ H Q ⟨F, ρ, g, S, R, q⟩ => ?_, fun ρ h Q Q' X X' hq _ q => hq _ _ q⟩
  exact LQ.at q S (r F)
theorem ae_int {i : Int} {j pos} : AE X E (.Constant (.int i) j pos) (wC (.int i)) := ae_c pe_int fun _ => .int i
theorem ae_bl {i : Bool} {j pos} : AE X E (.Constant (.bool i) j pos) (wC (.bl i)) := ae_c pe_bl fun _ => .bl i
theorem ae_non {j pos} : AE X E (.Constant .none j pos) (wC .non) := ae_c pe_non fun _ => .non
theorem ae_str {i : Str} {j pos} : AE X E (.Constant (.str i) j pos) (wC (.str i)) := ae_c pe_str fun _ => .str i
/-- what a name of the module holds -/
structure Cst (K : PySem.W.Frag) (mg : Str → Option Value) (x : Str) (d : D) : Prop where
  ex : ∃ v u, mg x = some u ∧ RelV v u ∧ ∀ F, Rep K F d v
theorem ae_glob {x : Str} {d : D} (c : Cst X.K X.mg x d) (hg : Gl X x := by rfl) (hd : (x == ("__debug__" : Str)) = false := by decide) : AE X E (.Name x pos) (wC d) := by
  obtain ⟨v, u, m, r, q⟩ := c.ex
  exact ae_c (pe_glob hg m r hd) q
theorem ae_ty {x : Str} {n : String} (hm : X.mg x = none) (hv : bootBuiltins x = some (.type n)) (hg : Gl X x := by rfl) (hn : x ≠ "__name__" := by decide) (hd : (x == ("__debug__" : Str)) = false := by decide) : AE X E (.Name x pos) (wC (.ty n)) :=
  ae_c (pe_bltn hg hm hv (v := .ty n) rfl hn hd) fun _ => .ty n
theorem ae_var (i : Nat) {x : Str} (hN : X.N[i]? = some x := by rfl) (hv : Vis X.env.scope x := by first | exact Or.inl rfl | exact Or.inr (Or.inl rfl) | exact Or.inr (Or.inr rfl))
    (hd : (x == ("__debug__" : Str)) = false := by decide) (hcd : (x == ("__classdict__" : Str)) = false := by decide) : AE X E (.Name x pos) (wVar i) := by
  refine ⟨PE.imp (pe_var hN hv hd hcd) fun σ H Q ⟨F, ρ, g, S, R, q⟩ => ?_, fun ρ h Q Q' X X' hq _ q => ?_⟩
  · unfold wVar at q
    split at q
    · rename_i d e
      obtain ⟨v, h1, h2⟩ := R.2 i d e
      exact ⟨v, h1, LQ.at q S h2⟩
    · exact q.elim
  · unfold wVar at *
    split at q
    · exact hq _ _ q
    · exact q.elim
/-- two expressions, then an operator of values -/
theorem two {r : R2} {f : D → D → AH → KD → Prop} (ok : OpD X.K r f) (ha : AE X E a wa) (hb : AE X E b wb) {σ : L2.St} {H : Hp} {Q : VK} (h : tE X.K E (wOp f wa wb) σ H Q) : tOp r (tE X.K E wa) (tE X.K E wb) σ H Q := by
  obtain ⟨F, ρ, g, S, R, q⟩ := h
  refine ⟨F, ρ, g, S, R, ha.mo _ _ _ _ _ _ (fun x h1 hx => ?_) (fun _ _ z => z) q⟩
  intro F1 H1 vx e1 S1 rx
  refine ⟨F1, ρ, h1, S1, R.ext e1, hb.mo _ _ _ _ _ _ (fun y h2 hf => ?_) (fun _ _ z => LX.ext e1 z) hx⟩
  intro F2 H2 vy e2 S2 ry
  exact ok.to S2 (rx.ext e2) ry (ok.mo (fun _ _ z => LQ.ext (e1.trans e2) z) hf)
theorem mo_op {f : D → D → AH → KD → Prop} (mo : ∀ {x y h} {Q Q' : KD}, (∀ d h, Q d h → Q' d h) → f x y h Q → f x y h Q') (ma : MoE wa) (mb : MoE wb) : MoE (wOp f wa wb) := fun ρ h Q Q' X X' hq hx q =>
  ma _ _ _ _ _ _ (fun x h1 q1 => mb _ _ _ _ _ _ (fun y h2 q2 => mo hq q2) hx q1) hx q
theorem ae_bin {op : Operator} {r : R2} {f : D → D → AH → KD → Prop} (ok : OpD X.K r f) (ho : OpR X (binaryOp op) r) (ha : AE X E a wa) (hb : AE X E b wb) : AE X E (.BinOp a op b pos) (wOp f wa wb) :=
  ⟨PE.imp (pe_op ho ha.run hb.run) fun σ H Q h => two ok ha hb h, mo_op ok.mo ha.mo hb.mo⟩
theorem ae_add (m : Bool) (ha : AE X E a wa) (hb : AE X E b wb) : AE X E (.BinOp a .Add b pos) (wOp (dAdd m) wa wb) := ae_bin dAdd_ok op_addD ha hb
theorem ae_sub (ha : AE X E a wa) (hb : AE X E b wb) : AE X E (.BinOp a .Sub b pos) (wOp dSub wa wb) := ae_bin dSub_ok op_sub ha hb
theorem ae_mul (m : Bool) (ha : AE X E a wa) (hb : AE X E b wb) : AE X E (.BinOp a .Mult b pos) (wOp (dMul m) wa wb) := ae_bin (r := rMul X.K) dMul_ok op_mulD ha hb
theorem ae_div (ha : AE X E a wa) (hb : AE X E b wb) : AE X E (.BinOp a .FloorDiv b pos) (wOp dDiv wa wb) := ae_bin dDiv_ok op_divD ha hb
theorem ae_mod (ha : AE X E a wa) (hb : AE X E b wb) : AE X E (.BinOp a .Mod b pos) (wOp dMod wa wb) := ae_bin dMod_ok op_mod ha hb
theorem ae_pow (ha : AE X E a wa) (hb : AE X E b wb) : AE X E (.BinOp a .Pow b pos) (wOp dPow wa wb) := ae_bin dPow_ok op_pow ha hb
theorem ae_neg (ha : AE X E a wa) : AE X E (.UnaryOp .USub a pos) (wNeg wa) := by
  refine ⟨PE.imp (pe_un un_neg ha.run) fun σ H Q ⟨F, ρ, g, S, R, q⟩ => ?_, fun ρ h Q Q' X X' hq hx q => ?_⟩
  · refine ⟨F, ρ, g, S, R, ha.mo _ _ _ _ _ _ (fun x h1 hx => ?_) (fun _ _ z => z) q⟩
    intro F1 H1 vx e1 S1 rx
    split at hx
    · cases rx; exact ⟨_, rfl, hx F1 H1 _ e1 S1 (.int _)⟩
    · exact hx.elim
  · refine ha.mo _ _ _ _ _ _ (fun x h1 q1 => ?_) hx q
    split at q1
    · exact hq _ _ q1
    · exact q1.elim
theorem ae_cmp {op : CmpOp} {r : R2} {f : D → D → AH → KD → Prop} (ok : OpD X.K r f) (ho : OpR X (compareOp op) r) (ha : AE X E a wa) (hb : AE X E b wb) (hm : behindInMarks op b = false := by first | exact nobehind _ (by decide) (by decide) | rfl) : AE X E (.Compare a [op] [b] pos) (wOp f wa wb) :=
  ⟨PE.imp (pe_cmpR ho ha.run hb.run hm) fun σ H Q h => two ok ha hb h, mo_op ok.mo ha.mo hb.mo⟩
theorem ae_lt (ha : AE X E a wa) (hb : AE X E b wb) : AE X E (.Compare a [.Lt] [b] pos) (wOp (dCmpI fun i j => decide (i < j)) wa wb) := ae_cmp dCmpI_ok op_lt ha hb
theorem ae_le (ha : AE X E a wa) (hb : AE X E b wb) : AE X E (.Compare a [.LtE] [b] pos) (wOp (dCmpI fun i j => decide (i ≤ j)) wa wb) := ae_cmp dCmpI_ok op_le ha hb
theorem ae_gt (ha : AE X E a wa) (hb : AE X E b wb) : AE X E (.Compare a [.Gt] [b] pos) (wOp (dCmpI fun i j => decide (j < i)) wa wb) := ae_cmp dCmpI_ok op_gt ha hb
theorem ae_eq (c : Cg gz X E k) (ha : AE X E a wa) (hb : AE X E b wb) : AE X E (.Compare a [.Eq] [b] pos) (wOp (dEq fun b => b) wa wb) := ae_cmp dEq_ok (op_eqF c.room.units) ha hb
theorem mo_chain {f g : D → D → AH → KD → Prop} (mf : ∀ {x y h} {Q Q' : KD}, (∀ d h, Q d h → Q' d h) → f x y h Q → f x y h Q') (mg : ∀ {x y h} {Q Q' : KD}, (∀ d h, Q d h → Q' d h) → g x y h Q → g x y h Q') (ma : MoE wa) (mb : MoE wb) (mc : MoE wc) : MoE (wChain f g wa wb wc) := fun ρ h Q Q' X X' hq hx q =>
  ma _ _ _ _ _ _ (fun x h1 q1 => mb _ _ _ _ _ _ (fun y h2 q2 => mf (fun z h3 q3 => by
    split at q3
    · split at q3
      · rename_i c; simp only [c, if_true]; exact mc _ _ _ _ _ _ (fun u h4 q4 => mg hq q4) hx q3
      · rename_i c; simp only [if_neg c]; exact hq _ _ q3
    · exact q3.elim) q2) hx q1) hx q
/-! ### tests -/
theorem at_val (ha : AE X E a wa) (he : ∀ whole, isTrue a X.env whole = (do let v ← whole; standAt a.pos; holding [v] (truthy v)) := by intro _; rfl) : AT X E a (wTest wa) := by
  refine ⟨PT.imp (pt_val ha.run he) fun σ H Q ⟨F, ρ, g, S, R, q⟩ => ?_, fun ρ h Q Q' X X' hq hx q => ?_⟩
  · refine ⟨F, ρ, g, S, R, ha.mo _ _ _ _ _ _ (fun x h1 hx => ?_) (fun _ _ z => z) q⟩
    intro F1 H1 vx e1 S1 rx
    split at hx
    · cases rx; exact ⟨_, rfl, hx F1 H1 e1 S1⟩
    · exact hx.elim
  · refine ha.mo _ _ _ _ _ _ (fun x h1 q1 => ?_) hx q
    split at q1
    · exact hq _ _ q1
    · exact q1.elim
theorem at_cmp {op : CmpOp} {r : R2} {f : D → D → AH → KD → Prop} (ok : OpD X.K r f) (ho : OpR X (compareOp op) r) (ha : AE X E a wa) (hb : AE X E b wb) (hm : behindInMarks op b = false := by first | exact nobehind _ (by decide) (by decide) | rfl) : AT X E (.Compare a [op] [b] pos) (wTest (wOp f wa wb)) := by
  have M : MoE (wOp f wa wb) := mo_op ok.mo ha.mo hb.mo
  refine ⟨PT.imp (pt_cmpR ho ha.run hb.run hm) fun σ H Q ⟨F, ρ, g, S, R, q⟩ => ?_, fun ρ h Q Q' X X' hq hx q => ?_⟩
  · refine two ok ha hb ⟨F, ρ, g, S, R, M _ _ _ _ _ _ (fun x h1 hx => ?_) (fun _ _ z => z) q⟩
    intro F1 H1 vx e1 S1 rx
    split at hx
    · cases rx; exact ⟨_, rfl, hx F1 H1 e1 S1⟩
    · exact hx.elim
  · refine M _ _ _ _ _ _ (fun x h1 q1 => ?_) hx q
    split at q1
    · exact hq _ _ q1
    · exact q1.elim
theorem at_lt (ha : AE X E a wa) (hb : AE X E b wb) : AT X E (.Compare a [.Lt] [b] pos) (wTest (wOp (dCmpI fun i j => decide (i < j)) wa wb)) := at_cmp dCmpI_ok op_lt ha hb
theorem at_gt (ha : AE X E a wa) (hb : AE X E b wb) : AT X E (.Compare a [.Gt] [b] pos) (wTest (wOp (dCmpI fun i j => decide (j < i)) wa wb)) := at_cmp dCmpI_ok op_gt ha hb
theorem at_ge (ha : AE X E a wa) (hb : AE X E b wb) : AT X E (.Compare a [.GtE] [b] pos) (wTest (wOp (dCmpI fun i j => decide (j ≤ i)) wa wb)) := at_cmp dCmpI_ok op_ge ha hb
theorem at_eq (c : Cg gz X E k) (ha : AE X E a wa) (hb : AE X E b wb) : AT X E (.Compare a [.Eq] [b] pos) (wTest (wOp (dEq fun b => b) wa wb)) := at_cmp dEq_ok (op_eqF c.room.units) ha hb
theorem at_ne (c : Cg gz X E k) (ha : AE X E a wa) (hb : AE X E b wb) : AT X E (.Compare a [.NotEq] [b] pos) (wTest (wOp (dEq fun b => !b) wa wb)) := at_cmp dEq_ok (op_neF c.room.units) ha hb
theorem at_is (ha : AE X E a wa) (hb : AE X E b wb) : AT X E (.Compare a [.Is] [b] pos) (wTest (wOp (dIsN fun b => b) wa wb)) := at_cmp dIsN_ok op_isF ha hb
theorem at_isnot (ha : AE X E a wa) (hb : AE X E b wb) : AT X E (.Compare a [.IsNot] [b] pos) (wTest (wOp (dIsN fun b => !b) wa wb)) := at_cmp dIsN_ok op_notF ha hb
theorem Sim.truD {K : PySem.W.Frag} {F : Hp} {h : AH} {H : Hp} {d : D} {v : V} {c : Bool} (S : Sim K F h H) (r : Rep K F d v) (q : truD h d = some c) : TruV K v H c := by
  cases r with
  | ref a =>
    cases e : h a with
    | none => simp [DL.truD, cur, e] at q
    | some o =>
      obtain ⟨_, u, hu, ro⟩ := S.ob _ _ e
      cases o with
      | lst xs =>
        obtain ⟨vs, rfl, rs⟩ := ro
        simp only [DL.truD, cur, e, Option.some.injEq] at q
        refine .inl ⟨vs, .of hu, ?_⟩
        rw [← q]; cases rs <;> rfl
      | dK xs =>
        obtain ⟨vs, rfl, rs⟩ := ro
        simp only [DL.truD, cur, e, Option.some.injEq] at q
        refine .inr (.inr ⟨vs, hu, ?_⟩)
        rw [← q]; cases rs <;> rfl
      | dT _ => simp [DL.truD, cur, e] at q
      | ins _ _ => simp [DL.truD, cur, e] at q
      | lck _ => simp [DL.truD, cur, e] at q
      | lckK _ _ => simp [DL.truD, cur, e] at q
      | tab _ => simp [DL.truD, cur, e] at q
  | non => simp only [DL.truD, cur, Option.some.injEq] at q; exact q.symm
  | bl b => simp only [DL.truD, cur, Option.some.injEq] at q; exact q.symm
  | int i => simp only [DL.truD, cur, Option.some.injEq] at q; exact q.symm
  | str s => simp [DL.truD, cur] at q
  | ty n => simp [DL.truD, cur] at q
  | lk _ _ => simp [DL.truD, cur] at q
  | ob _ _ => simp [DL.truD, cur] at q
  | xob0 _ => simp [DL.truD, cur] at q
  | lam _ _ => simp [DL.truD, cur] at q
  | xob _ _ _ => simp [DL.truD, cur] at q
  | @tup a xs vs h r =>
    simp only [DL.truD, cur, Option.some.injEq] at q
    refine .inr (.inl ⟨vs, sqt_of S.fz h, ?_⟩)
    rw [← q]; cases r <;> rfl
  | @tpl a ob xs vs h hd r =>
    simp only [DL.truD, cur, Option.some.injEq] at q
    refine .inr (.inl ⟨vs, sqt_of S.fz (.inl (.inr ⟨_, h⟩)), ?_⟩)
    rw [← q]; cases r <;> rfl
  | @lst a xs vs h r =>
    simp only [DL.truD, cur, Option.some.injEq] at q
    refine .inl ⟨vs, .of (S.fz _ _ h), ?_⟩
    rw [← q]; cases r <;> rfl
  | @dK a xs vs h r =>
    simp only [DL.truD, cur, Option.some.injEq] at q
    refine .inr (.inr ⟨vs, S.fz _ _ h, ?_⟩)
    rw [← q]; cases r <;> rfl
  | dT _ _ => simp [DL.truD, cur] at q
theorem at_truth (ha : AE X E a wa) (he : ∀ whole, isTrue a X.env whole = (do let v ← whole; standAt a.pos; holding [v] (truthy v)) := by intro _; rfl) : AT X E a (wTruth wa) := by
  refine ⟨PT.imp (pt_truth ha.run he) fun σ H Q ⟨F, ρ, g, S, R, q⟩ => ?_, fun ρ h Q Q' X X' hq hx q => ?_⟩
  · refine ⟨F, ρ, g, S, R, ha.mo _ _ _ _ _ _ (fun x h1 hx => ?_) (fun _ _ z => z) q⟩
    intro F1 H1 vx e1 S1 rx
    obtain ⟨c, hc, hx⟩ := hx
    exact ⟨c, S1.truD rx hc, hx F1 H1 e1 S1⟩
  · exact ha.mo _ _ _ _ _ _ (fun x h1 ⟨c, hc, q1⟩ => ⟨c, hc, hq _ _ q1⟩) hx q
theorem mo_and {a b : WT} (ma : MoT a) (mb : MoT b) : MoT (wAnd a b) := fun ρ h Q Q' X X' hq hx q => ma _ _ _ _ _ _ (fun c h1 q1 => by
  split at q1
  · rename_i e; rw [if_pos e]; exact mb _ _ _ _ _ _ hq hx q1
  · rename_i e; rw [if_neg e]; exact hq _ _ q1) hx q
theorem mo_or {a b : WT} (ma : MoT a) (mb : MoT b) : MoT (wOr a b) := fun ρ h Q Q' X X' hq hx q => ma _ _ _ _ _ _ (fun c h1 q1 => by
  split at q1
  · rename_i e; rw [if_pos e]; exact hq _ _ q1
  · rename_i e; rw [if_neg e]; exact mb _ _ _ _ _ _ hq hx q1) hx q
theorem AW.at (h : AW X E a ta) : AT X E a ta := ⟨h.run.pt, h.mo⟩
theorem aw_and1 (ha : AT X E a ta) : AW X E (.BoolOp .And [a] pos) ta := ⟨pw_and1 ha.run, ha.mo⟩
theorem aw_or1 (ha : AT X E a ta) : AW X E (.BoolOp .Or [a] pos) ta := ⟨pw_or1 ha.run, ha.mo⟩
theorem aw_and {rest : List Expr} (ha : AT X E a ta) (hb : AW X E (.BoolOp .And (b :: rest) pos) tb) : AW X E (.BoolOp .And (a :: b :: rest) pos) (wAnd ta tb) := by
  refine ⟨PW.imp (pw_and ha.run hb.run) fun σ H Q ⟨F, ρ, g, S, R, q⟩ => ?_, mo_and ha.mo hb.mo⟩
  refine ⟨F, ρ, g, S, R, ha.mo _ _ _ _ _ _ (fun x h1 hx => ?_) (fun _ _ z => z) q⟩
  intro F1 H1 e1 S1
  split at hx
  · rename_i e; rw [if_pos e]
    exact ⟨F1, ρ, h1, S1, R.ext e1, hb.mo _ _ _ _ _ _ (fun _ _ z => LB.ext e1 z) (fun _ _ z => LX.ext e1 z) hx⟩
  · rename_i e; rw [if_neg e]
    exact hx F1 H1 e1 S1
theorem aw_or {rest : List Expr} (ha : AT X E a ta) (hb : AW X E (.BoolOp .Or (b :: rest) pos) tb) : AW X E (.BoolOp .Or (a :: b :: rest) pos) (wOr ta tb) := by
  refine ⟨PW.imp (pw_or ha.run hb.run) fun σ H Q ⟨F, ρ, g, S, R, q⟩ => ?_, mo_or ha.mo hb.mo⟩
  refine ⟨F, ρ, g, S, R, ha.mo _ _ _ _ _ _ (fun x h1 hx => ?_) (fun _ _ z => z) q⟩
  intro F1 H1 e1 S1
  split at hx
  · rename_i e; rw [if_pos e]
    exact hx F1 H1 e1 S1
  · rename_i e; rw [if_neg e]
    exact ⟨F1, ρ, h1, S1, R.ext e1, hb.mo _ _ _ _ _ _ (fun _ _ z => LB.ext e1 z) (fun _ _ z => LX.ext e1 z) hx⟩
theorem at_not (ha : AT X E a ta) : AT X E (.UnaryOp .Not a pos) (wNot ta) := by
  refine ⟨PT.imp (pt_not ha.run) fun σ H Q ⟨F, ρ, g, S, R, q⟩ => ?_, fun ρ h Q Q' X X' hq hx q => ha.mo _ _ _ _ _ _ (fun c h1 q1 => hq _ _ q1) hx q⟩
  exact ⟨F, ρ, g, S, R, ha.mo _ _ _ _ _ _ (fun x h1 hx F1 H1 e1 S1 => hx F1 H1 e1 S1) (fun _ _ z => z) q⟩
/-! ### and, or, not as values -/
theorem ae_one {op} (ha : AE X E a wa) : AE X E (.BoolOp op [a] pos) wa := ⟨pe_one ha.run, ha.mo⟩
theorem ae_and {rest : List Expr} (ha : AE X E a wa) (hb : AE X E (.BoolOp .And (b :: rest) pos) wb) : AE X E (.BoolOp .And (a :: b :: rest) pos) (wAndV wa wb) := by
  refine ⟨PE.imp (pe_and ha.run hb.run) fun σ H Q ⟨F, ρ, g, S, R, q⟩ => ?_, fun ρ h Q Q' X X' hq hx q => ?_⟩
  · refine ⟨F, ρ, g, S, R, ha.mo _ _ _ _ _ _ (fun x h1 hx => ?_) (fun _ _ z => z) q⟩
    intro F1 H1 vx e1 S1 rx
    split at hx
    · cases rx
      refine ⟨_, rfl, ?_⟩
      split at hx
      · rename_i e; rw [if_pos e]
        exact ⟨F1, ρ, h1, S1, R.ext e1, hb.mo _ _ _ _ _ _ (fun _ _ z => LQ.ext e1 z) (fun _ _ z => LX.ext e1 z) hx⟩
      · rename_i e; rw [if_neg e]
        exact hx F1 H1 _ e1 S1 (.bl _)
    · exact hx.elim
  · refine ha.mo _ _ _ _ _ _ (fun x h1 q1 => ?_) hx q
    split at q1
    · split at q1
      · rename_i e; simp only [if_pos e]; exact hb.mo _ _ _ _ _ _ hq hx q1
      · rename_i e; simp only [if_neg e]; exact hq _ _ q1
    · exact q1.elim
theorem ae_not (ha : AE X E a wa) : AE X E (.UnaryOp .Not a pos) (wNotV wa) := by
  refine ⟨PE.imp (pe_not ha.run) fun σ H Q ⟨F, ρ, g, S, R, q⟩ => ?_, fun ρ h Q Q' X X' hq hx q => ?_⟩
  · refine ⟨F, ρ, g, S, R, ha.mo _ _ _ _ _ _ (fun x h1 hx => ?_) (fun _ _ z => z) q⟩
    intro F1 H1 vx e1 S1 rx
    split at hx
    · cases rx; exact ⟨_, rfl, hx F1 H1 _ e1 S1 (.bl _)⟩
    · exact hx.elim
  · refine ha.mo _ _ _ _ _ _ (fun x h1 q1 => ?_) hx q
    split at q1
    · exact hq _ _ q1
    · exact q1.elim
theorem ae_if {c : Expr} (hc : AT X E c ta) (ha : AE X E a wa) (hb : AE X E b wb) : AE X E (.IfExp c a b pos) (wIf ta wa wb) := by
  refine ⟨PE.imp (pe_ifExp hc.run ha.run hb.run) fun σ H Q ⟨F, ρ, g, S, R, q⟩ => ?_, fun ρ h Q Q' X X' hq hx q => hc.mo _ _ _ _ _ _ (fun c h1 q1 => ?_) hx q⟩
  · refine ⟨F, ρ, g, S, R, hc.mo _ _ _ _ _ _ (fun x h1 hx => ?_) (fun _ _ z => z) q⟩
    intro F1 H1 e1 S1
    split at hx
    · rename_i e; rw [if_pos e]
      exact ⟨F1, ρ, h1, S1, R.ext e1, ha.mo _ _ _ _ _ _ (fun _ _ z => LQ.ext e1 z) (fun _ _ z => LX.ext e1 z) hx⟩
    · rename_i e; rw [if_neg e]
      exact ⟨F1, ρ, h1, S1, R.ext e1, hb.mo _ _ _ _ _ _ (fun _ _ z => LQ.ext e1 z) (fun _ _ z => LX.ext e1 z) hx⟩
  · split at q1
    · rename_i e; rw [if_pos e]; exact ha.mo _ _ _ _ _ _ hq hx q1
    · rename_i e; rw [if_neg e]; exact hb.mo _ _ _ _ _ _ hq hx q1
/-! ### argument lists, displays -/
theorem aa_nil : AA X E [] wNil := ⟨PA.imp pa_nil fun σ H Q ⟨F, ρ, g, S, R, q⟩ => q F H [] (.refl F) S .nil, fun ρ h Q Q' X X' hq hx q => hq _ _ q⟩
theorem aa_cons (ha : AE X E e wa) (hr : AA X E es wl) (hs : starEach (e :: es) X.env = (false, eval e X.env) :: starEach es X.env := by rfl) : AA X E (e :: es) (wCons wa wl) := by
  refine ⟨PA.imp (pa_cons ha.run hr.run hs) fun σ H Q ⟨F, ρ, g, S, R, q⟩ => ?_, fun ρ h Q Q' X X' hq hx q => ha.mo _ _ _ _ _ _ (fun x h1 q1 => hr.mo _ _ _ _ _ _ (fun xs h2 q2 => hq _ _ q2) hx q1) hx q⟩
  refine ⟨F, ρ, g, S, R, ha.mo _ _ _ _ _ _ (fun x h1 hx => ?_) (fun _ _ z => z) q⟩
  intro F1 H1 vx e1 S1 rx
  refine ⟨F1, ρ, h1, S1, R.ext e1, hr.mo _ _ _ _ _ _ (fun xs h2 h3 => ?_) (fun _ _ z => LX.ext e1 z) hx⟩
  intro F2 H2 vs e2 S2 rs
  exact h3 F2 H2 _ (e1.trans e2) S2 (.cons (rx.ext e2) rs)
theorem ae_tup {x1} (h : AA X E es wl) : AE X E (.Tuple es x1 pos) (wTup wl) := by
  refine ⟨PE.imp (pe_tup h.run) fun σ H Q ⟨F, ρ, g, S, R, q⟩ => ?_, fun ρ h0 Q Q' X X' hq hx q => h.mo _ _ _ _ _ _ (fun x h1 q1 => ⟨q1.1, hq _ _ q1.2⟩) hx q⟩
  refine ⟨F, ρ, g, S, R, h.mo _ _ _ _ _ _ (fun xs h1 hx => ?_) (fun _ _ z => z) q⟩
  intro F1 H1 vs e1 S1 rs
  exact ⟨by rw [← rs.length]; exact hx.1, S1.newT rs (LQ.ext e1 hx.2)⟩
theorem ae_lst (m : Bool) (h : AA X E es wl) : AE X E (.List es pos) (wLst m wl) := by
  refine ⟨PE.imp (pe_lst h.run) fun σ H Q ⟨F, ρ, g, S, R, q⟩ => ?_, fun ρ h0 Q Q' X X' hq hx q => h.mo _ _ _ _ _ _ (fun x h1 q1 => ⟨q1.1, newL_mo hq q1.2⟩) hx q⟩
  refine ⟨F, ρ, g, S, R, h.mo _ _ _ _ _ _ (fun xs h1 hx => ?_) (fun _ _ z => z) q⟩
  intro F1 H1 vs e1 S1 rs
  exact ⟨by rw [← rs.length]; exact hx.1, S1.newL rs (newL_mo (fun _ _ z => LQ.ext e1 z) hx.2)⟩
/-! ### calls -/
theorem ae_call {n j : Nat} {gg : List D → List D → List D} {S : FSpec} {x : Str} {p : Pos} (c : Cg gz X E k) (C : Cal gy X.prog X.w X.K X.mg X.base x j n [] gg S) (hj : j ≤ k) (hz : gy = true → gz = true) (ha : AA X E (e :: es) wl)
    (hg : Gl X x := by rfl) (hdb : (x == ("__debug__" : Str)) = false := by decide) (he : starEach (e :: es) X.env = (false, eval e X.env) :: starEach es X.env := by rfl)
    (hpl : (backTo pos (starEach es X.env)).any (·.1) = false := by rfl) : AE X E (.Call (.Name x p) (e :: es) [] pos) (wCallP S n gg wl) := by
  obtain ⟨f, fd, ps, hm, hk, G, B⟩ := C.ex
  refine ⟨⟨fun pins s σ H Q I hq => ?_⟩, fun ρ h0 Q Q' X X' hq hx q => ha.mo _ _ _ _ _ _ (fun x h1 q1 => ⟨q1.1, G.mo _ _ _ _ _ _ hq hx q1.2⟩) hx q⟩
  obtain ⟨F, ρ, g, S0, R, q⟩ := hq
  refine wpAny_Call_Name_kw (ld_glob I hg hm ?_ hdb)
  refine PySem.W.callWith_K (h₀ := X.base) I.ok.mod.kin hk
    (thn (ha.run.run pos pins s σ H (fun vs H1 => ∃ F1 h1 ds, Sim X.K F1 h1 H1 ∧ Reps X.K F1 ds vs ∧ ds.length = n ∧ S (gg ds []) h1 (LQ X.K F1 Q) (LX X.K F1 E)) I
      ⟨F, ρ, g, S0, R, ha.mo _ _ _ _ _ _ (fun ds h1 q1 F1 H1 vs e1 S1 rs => ⟨F1, h1, ds, S1, rs, q1.1, G.mo _ _ _ _ _ _ (fun _ _ z => LQ.ext e1 z) (fun _ _ z => LX.ext e1 z) q1.2⟩) (fun _ _ z => z) q⟩) fun us s1 hh => ?_) he hpl
  obtain ⟨vs, H1, I1, r1, F1, h1, ds, S1, rs, l, q1⟩ := hh
  refine ⟨I1.kIn, ?_⟩
  obtain ⟨xs, ts, rx, rt, bt⟩ := B.to s1 F1 ds [] vs [] us [] I1.kIn l rfl rs r1 .nil .nil
  exact wpAny_call (codeAny_mono (run_g (c.mono hj) G hz I1 bt rt ⟨F1, _, h1, S1, rx, q1⟩) fun r s' hr => by
    match r, hr with
    | .error _, hr => exact hr
    | .ok (.ret _), hr => exact hr)
/-- a built-in by values -/
structure CaD (X : Cx) (f : Value) (r : List D → AH → KD → Prop) : Prop where
  ex : ∃ rv, CallR X f rv ∧ ∀ {F h H ds vs} {Q : VK}, Sim X.K F h H → Reps X.K F ds vs → r ds h (LQ X.K F Q) → rv vs H Q
  mo : ∀ {ds h} {Q Q' : KD}, (∀ d h, Q d h → Q' d h) → r ds h Q → r ds h Q'
theorem ae_b {id : String} {x : Str} {p : Pos} {r : List D → AH → KD → Prop} (C : CaD X (.builtin id) r) (hm : X.mg x = none) (hv : bootBuiltins x = some (.builtin id)) (ha : AA X E (e :: es) wl)
    (hg : Gl X x := by rfl) (hn : x ≠ "__name__" := by decide) (hdb : (x == ("__debug__" : Str)) = false := by decide)
    (he : starEach (e :: es) X.env = (false, eval e X.env) :: starEach es X.env := by rfl) (hpl : (backTo pos (starEach es X.env)).any (·.1) = false := by rfl) : AE X E (.Call (.Name x p) (e :: es) [] pos) (wB r wl) := by
  obtain ⟨rv, hc, to⟩ := C.ex
  refine ⟨PE.imp (pe_callB hc hg hm hv ha.run hn hdb he hpl) fun σ H Q ⟨F, ρ, g, S, R, q⟩ => ?_, fun ρ h0 Q Q' X X' hq hx q => ha.mo _ _ _ _ _ _ (fun x h1 q1 => C.mo hq q1) hx q⟩
  exact ⟨F, ρ, g, S, R, ha.mo _ _ _ _ _ _ (fun ds h1 q1 F1 H1 vs e1 S1 rs => to S1 rs (C.mo (fun _ _ z => LQ.ext e1 z) q1)) (fun _ _ z => z) q⟩
theorem ae_bt {T : String} {x : Str} {p : Pos} {r : List D → AH → KD → Prop} (C : CaD X (.type T) r) (hm : X.mg x = none) (hv : bootBuiltins x = some (.type T)) (ha : AA X E (e :: es) wl)
    (hg : Gl X x := by rfl) (hn : x ≠ "__name__" := by decide) (hdb : (x == ("__debug__" : Str)) = false := by decide)
    (he : starEach (e :: es) X.env = (false, eval e X.env) :: starEach es X.env := by rfl) (hpl : (backTo pos (starEach es X.env)).any (·.1) = false := by rfl) : AE X E (.Call (.Name x p) (e :: es) [] pos) (wB r wl) := by
  obtain ⟨rv, hc, to⟩ := C.ex
  refine ⟨PE.imp (pe_callTy hc hg hm hv ha.run hn hdb he hpl) fun σ H Q ⟨F, ρ, g, S, R, q⟩ => ?_, fun ρ h0 Q Q' X X' hq hx q => ha.mo _ _ _ _ _ _ (fun x h1 q1 => C.mo hq q1) hx q⟩
  exact ⟨F, ρ, g, S, R, ha.mo _ _ _ _ _ _ (fun ds h1 q1 F1 H1 vs e1 S1 rs => to S1 rs (C.mo (fun _ _ z => LQ.ext e1 z) q1)) (fun _ _ z => z) q⟩
end
end DL
namespace DL
open PySem PySem.Spec L2
/-! ### statements over data -/
def wSkip : WS := fun D ρ h => D.nx ρ h
def wSeq (a b : WS) : WS := fun D ρ h => a { D with nx := b D } ρ h
def wExpr (a : WE) : WS := fun D ρ h => a ρ h (fun _ h1 => D.nx ρ h1) D.ex
def wRet (a : WE) : WS := fun D ρ h => a ρ h D.rt D.ex
def wRetN : WS := fun D _ h => D.rt .non h
def wIfS (t : WT) (a b : WS) : WS := fun D ρ h => t ρ h (fun c h1 => if c = true then a D ρ h1 else b D ρ h1) D.ex
def wNever : WS := fun _ _ _ => False
abbrev WG := D → EnvD → AH → (EnvD → AH → Prop) → KX → Prop
abbrev WGs := List D → EnvD → AH → (EnvD → AH → Prop) → KX → Prop
def gN (i : Nat) : WG := fun d ρ h Q _ => Q (ρ.set i (some d)) h
def gsNil : WGs := fun ds ρ h Q _ => ds = [] ∧ Q ρ h
def gsCons (g : WG) (r : WGs) : WGs := fun ds ρ h Q X => ∃ d ds', ds = d :: ds' ∧ g d ρ h (fun ρ1 h1 => r ds' ρ1 h1 Q X) X
def gT (n : Nat) (r : WGs) : WG := fun d ρ h Q X => ∃ xs, d = .tup xs ∧ xs.length = n ∧ r xs ρ h Q X
def wAsg (a : WE) (g : WG) : WS := fun D ρ h => a ρ h (fun x h1 => g x ρ h1 D.nx D.ex) D.ex
def wPar (i j : Nat) (a : WA) : WS := fun D ρ h => a ρ h (fun ds h1 => ∃ x y, ds = [x, y] ∧ D.nx ((ρ.set i (some x)).set j (some y)) h1) D.ex
def MoG (g : WG) : Prop := ∀ d ρ h Q Q' X X', (∀ ρ h, Q ρ h → Q' ρ h) → (∀ x h, X x h → X' x h) → g d ρ h Q X → g d ρ h Q' X'
def MoGs (g : WGs) : Prop := ∀ d ρ h Q Q' X X', (∀ ρ h, Q ρ h → Q' ρ h) → (∀ x h, X x h → X' x h) → g d ρ h Q X → g d ρ h Q' X'
def tG (K : PySem.W.Frag) (E : XK) (g : WG) : TG := fun v σ H Q => ∃ F ρ h d, Sim K F h H ∧ EnvR K F ρ σ ∧ Rep K F d v ∧ g d ρ h (LS K F Q) (LX K F E)
def tGs (K : PySem.W.Frag) (E : XK) (g : WGs) : TGs := fun v σ H Q => ∃ F ρ h d, Sim K F h H ∧ EnvR K F ρ σ ∧ Reps K F d v ∧ g d ρ h (LS K F Q) (LX K F E)
structure AG (X : Cx) (E : XK) (e : Expr) (g : WG) : Prop where
  run : PG X e (tG X.K E g)
  mo : MoG g
structure AGs (X : Cx) (E : XK) (es : List Expr) (g : WGs) : Prop where
  run : PGs X es (tGs X.K E g)
  mo : MoGs g
theorem PG.imp {X : Cx} {e : Expr} {t t' : TG} (p : PG X e t) (h : ∀ v σ H Q, t' v σ H Q → t v σ H Q) : PG X e t' := ⟨fun pins s σ H v u Q I r q => p.run pins s σ H v u Q I r (h _ _ _ _ q)⟩
theorem PGs.imp {X : Cx} {e : List Expr} {t t' : TGs} (p : PGs X e t) (h : ∀ v σ H Q, t' v σ H Q → t v σ H Q) : PGs X e t' := ⟨fun pins s σ H v u Q I r q => p.run pins s σ H v u Q I r (h _ _ _ _ q)⟩
section
variable {X : Cx} {E : XK} {k : Nat} {a b e : Expr} {es : List Expr} {wa wb wc : WE} {ta : WT} {wl : WA} {pos : Pos} {st : Stmt} {rest : List Stmt} {s1 s2 : WS}
theorem Le.nx {D D' : EndsD} (l : D.Le D') (q : ∀ ρ h, D.nx ρ h → D'.nx ρ h) : D.Le D' := ⟨q, l.rt, l.bk, l.ct, l.ex⟩
theorem ass_nil : ASs X E [] wSkip := ⟨PSs.imp pss_nil fun D σ H ⟨F, ρ, h, S, R, q⟩ => q F H σ (.refl F) S R, fun D D' ρ h l q => l.nx _ _ q⟩
theorem mo_seq (h1 : MoS s1) (h2 : MoS s2) : MoS (wSeq s1 s2) := fun D D' ρ h l q => h1 { D with nx := s2 D } { D' with nx := s2 D' } _ _ ⟨fun ρ h z => h2 _ _ _ _ l z, l.rt, l.bk, l.ct, l.ex⟩ q
theorem ass_cons (h1 : AS X E st s1) (h2 : ASs X E rest s2) : ASs X E (st :: rest) (wSeq s1 s2) := by
  refine ⟨PSs.imp (pss_cons h1.run h2.run) fun D σ H ⟨F, ρ, h, S, R, q⟩ => ?_, mo_seq h1.mo h2.mo⟩
  refine ⟨F, ρ, h, S, R, h1.mo { LD X.K F D E with nx := s2 (LD X.K F D E) } _ _ _ ⟨fun ρ1 g1 z => ?_, fun _ _ z => z, fun _ _ z => z, fun _ _ z => z, fun _ _ z => z⟩ q⟩
  intro F1 H1 σ1 e1 S1 R1
  exact ⟨F1, ρ1, g1, S1, R1, h2.mo _ _ _ _ (LD.ext e1) z⟩
theorem ass_one (h1 : AS X E st s1) : ASs X E [st] s1 := ⟨PSs.imp (pss_one h1.run) fun D σ H q => q, h1.mo⟩
theorem as_expr (he : AE X E e wa) (hs : swapsWith e none pos.line X.env = pure false := by rfl) : AS X E (.Expr e pos) (wExpr wa) := by
  refine ⟨PS.imp (ps_expr he.run hs) fun D σ H ⟨F, ρ, h, S, R, q⟩ => ?_, fun D D' ρ h l q => he.mo _ _ _ _ _ _ (fun _ _ z => l.nx _ _ z) l.ex q⟩
  refine ⟨F, ρ, h, S, R, he.mo _ _ _ _ _ _ (fun d h1 z => ?_) (fun _ _ z => z) q⟩
  intro F1 H1 v e1 S1 _
  exact z F1 H1 σ e1 S1 (R.ext e1)
theorem as_ret (he : AE X E e wa) : AS X E (.Return (some e) pos) (wRet wa) :=
  ⟨PS.imp (ps_ret he.run) fun D σ H ⟨F, ρ, h, S, R, q⟩ => ⟨F, ρ, h, S, R, q⟩, fun D D' ρ h l q => he.mo _ _ _ _ _ _ l.rt l.ex q⟩
theorem as_if {c : Expr} {A B : List Stmt} (hc : AT X E c ta) (ha : ASs X E A s1) (hb : ASs X E B s2) : AS X E (.If c A B pos) (wIfS ta s1 s2) := by
  refine ⟨PS.imp (ps_if hc.run ha.run hb.run) fun D σ H ⟨F, ρ, h, S, R, q⟩ => ?_, fun D D' ρ h l q => hc.mo _ _ _ _ _ _ (fun c h1 q1 => ?_) l.ex q⟩
  · refine ⟨F, ρ, h, S, R, hc.mo _ _ _ _ _ _ (fun x h1 hx => ?_) (fun _ _ z => z) q⟩
    intro F1 H1 e1 S1
    split at hx
    · rename_i e; rw [if_pos e]; exact ⟨F1, ρ, h1, S1, R.ext e1, ha.mo _ _ _ _ (LD.ext e1) hx⟩
    · rename_i e; rw [if_neg e]; exact ⟨F1, ρ, h1, S1, R.ext e1, hb.mo _ _ _ _ (LD.ext e1) hx⟩
  · split at q1
    · rename_i e; rw [if_pos e]; exact ha.mo _ _ _ _ l q1
    · rename_i e; rw [if_neg e]; exact hb.mo _ _ _ _ l q1
/-! ### targets -/
theorem ag_name (i : Nat) {x : Str} (hN : X.N.Nodup) (hi : X.N[i]? = some x := by rfl) (hx : Loc X.env.scope x := by first | exact Or.inl rfl | exact Or.inr rfl) (hf : X.fn x = true ∨ X.env.scope.names.lookup x = some .local := by first | exact .inl rfl | exact .inr rfl) : AG X E (.Name x pos) (gN i) := by
  refine ⟨PG.imp (pg_name hN hi hx hf) fun v σ H Q ⟨F, ρ, h, d, S, R, r, q⟩ => q F H _ (.refl F) S (R.set r i), fun d ρ h Q Q' X X' hq _ q => hq _ _ q⟩
theorem ags_nil : AGs X E [] gsNil := by
  refine ⟨PGs.imp pgs_nil fun v σ H Q ⟨F, ρ, h, d, S, R, r, q⟩ => ?_, fun d ρ h Q Q' X X' hq _ q => ⟨q.1, hq _ _ q.2⟩⟩
  obtain ⟨rfl, q⟩ := q
  cases r
  exact ⟨rfl, q F H _ (.refl F) S R⟩
theorem ags_cons {g : WG} {gr : WGs} (h1 : AG X E e g) (h2 : AGs X E es gr) (hs : (assignEach (e :: es) X.env).map (·.2) = assign e X.env :: (assignEach es X.env).map (·.2) := by rfl) : AGs X E (e :: es) (gsCons g gr) := by
  refine ⟨PGs.imp (pgs_cons h1.run h2.run hs) fun v σ H Q ⟨F, ρ, h, d, S, R, r, q⟩ => ?_, fun d ρ h Q Q' X X' hq hx q => ?_⟩
  · obtain ⟨x, xs, rfl, q⟩ := q
    cases r with
    | cons r rr =>
      refine ⟨_, _, rfl, F, ρ, h, x, S, R, r, h1.mo _ _ _ _ _ _ _ (fun ρ1 g1 z => ?_) (fun _ _ z => z) q⟩
      intro F1 H1 σ1 e1 S1 R1
      exact ⟨F1, ρ1, g1, xs, S1, R1, rr.ext e1, h2.mo _ _ _ _ _ _ _ (fun _ _ z => LS.ext e1 z) (fun _ _ z => LX.ext e1 z) z⟩
  · obtain ⟨x, xs, e, q⟩ := q
    exact ⟨x, xs, e, h1.mo _ _ _ _ _ _ _ (fun ρ1 g1 z => h2.mo _ _ _ _ _ _ _ hq hx z) hx q⟩
theorem ag_tup {k2 n : Nat} {gr : WGs} (hc : X.calm = true) (h : AGs X E es gr) (hn : (assignEach es X.env).length = n := by rfl) (hst : (assignEach es X.env).findIdx? (·.1) = none := by rfl) : AG X E (.Tuple es k2 pos) (gT n gr) := by
  refine ⟨PG.imp (pg_tup hc h.run hn hst) fun v σ H Q ⟨F, ρ, g, d, S, R, r, q⟩ => ?_, fun d ρ g Q Q' X X' hq hx q => ?_⟩
  · obtain ⟨xs, rfl, l, q⟩ := q
    cases r with
    | @tup a _ vs hs rs => exact ⟨a, vs, rfl, sqt_of S.fz hs, by rw [← rs.length]; exact l, F, ρ, g, xs, S, R, rs, q⟩
  · obtain ⟨xs, e, l, q⟩ := q
    exact ⟨xs, e, l, h.mo _ _ _ _ _ _ _ hq hx q⟩
theorem mo_asg {g : WG} (h1 : MoE wa) (h2 : MoG g) : MoS (wAsg wa g) := fun D D' ρ h l q => h1 _ _ _ _ _ _ (fun x h1 z => h2 _ _ _ _ _ _ _ l.nx l.ex z) l.ex q
theorem to_asg {g : WG} (he : AE X E e wa) (hg : AG X E a g) {D : Ends} {σ : L2.St} {H : Hp} (q : tS X.K E (wAsg wa g) D σ H) : tAsg (tE X.K E wa) (tG X.K E g) D σ H := by
  obtain ⟨F, ρ, h, S, R, q⟩ := q
  refine ⟨F, ρ, h, S, R, he.mo _ _ _ _ _ _ (fun x h1 z => ?_) (fun _ _ z => z) q⟩
  intro F1 H1 v e1 S1 r
  exact ⟨F1, ρ, h1, x, S1, R.ext e1, r, hg.mo _ _ _ _ _ _ _ (fun _ _ z => LS.ext e1 z) (fun _ _ z => LX.ext e1 z) z⟩
theorem as_asg {tg : Expr} {g : WG} (he : AE X E e wa) (hg : AG X E tg g) (hs : swapsWithSole [tg] e pos.line X.env = pure false := by rfl) (hw : swappedStores [tg] e X.env = pure none := by rfl)
    (h1 : (assignEach [tg] X.env).map (·.2) = [assign tg X.env] := by rfl) : AS X E (.Assign [tg] e pos) (wAsg wa g) :=
  ⟨PS.imp (ps_asg he.run hg.run hs hw h1) fun D σ H q => to_asg he hg q, mo_asg he.mo hg.mo⟩
/-- name = value -/
theorem as_set (i : Nat) {x : Str} {pos' : Pos} (hN : X.N.Nodup) (he : AE X E e wa) (hi : X.N[i]? = some x := by rfl) (hx : Loc X.env.scope x := by first | exact Or.inl rfl | exact Or.inr rfl) (hs : swapsWith e (some (.Name x pos')) pos.line X.env = pure false := by rfl)
    (hf : X.fn x = true ∨ X.env.scope.names.lookup x = some .local := by first | exact .inl rfl | exact .inr rfl) : AS X E (.Assign [.Name x pos'] e pos) (wAsg wa (gN i)) := by
  have ag : AG X E (.Name x pos') (gN i) := ag_name i hN hi hx hf
  refine ⟨PS.imp (ps_set hN hi hx he.run hs hf) fun D σ H q => ?_, mo_asg he.mo ag.mo⟩
  obtain ⟨F, ρ, h, S, R, q⟩ := q
  refine ⟨F, ρ, h, S, R, he.mo _ _ _ _ _ _ (fun x h1 z => ?_) (fun _ _ z => z) q⟩
  intro F1 H1 v e1 S1 r
  exact z F1 H1 _ e1 S1 ((R.ext e1).set r i)
theorem as_par (i j : Nat) {x y : Str} {px py pt : Pos} {kt k2 pt2} (c : Cg gz X E k) (hij : i ≠ j) (ha : AA X E [a, b] wl)
    (hi : X.N[i]? = some x := by rfl) (hj : X.N[j]? = some y := by rfl)
    (hx : X.env.scope.names.lookup x = some .local := by rfl) (hy : X.env.scope.names.lookup y = some .local := by rfl)
    (hw : swappedStores [.Tuple [.Name x px, .Name y py] kt pt] (.Tuple [a, b] k2 pt2) X.env = pure (some [x, y]) := by rfl)
    (hs : swapsWithSole [.Tuple [.Name x px, .Name y py] kt pt] (.Tuple [a, b] k2 pt2) pos.line X.env = pure false := by rfl) :
    AS X E (.Assign [.Tuple [.Name x px, .Name y py] kt pt] (.Tuple [a, b] k2 pt2) pos) (wPar i j wl) := by
  refine ⟨PS.imp (ps_par c.calm c.nd hi hj hij hx hy ha.run hw hs) fun D σ H ⟨F, ρ, h, S, R, q⟩ => ?_, fun D D' ρ h l q => ha.mo _ _ _ _ _ _ (fun ds h1 ⟨x, y, e, z⟩ => ⟨x, y, e, l.nx _ _ z⟩) l.ex q⟩
  refine ⟨F, ρ, h, S, R, ha.mo _ _ _ _ _ _ (fun ds h1 z => ?_) (fun _ _ z => z) q⟩
  intro F1 H1 vs e1 S1 rs
  obtain ⟨x, y, rfl, z⟩ := z
  cases rs with
  | cons r1 rs =>
    cases rs with
    | cons r2 rs =>
      cases rs
      exact ⟨_, _, rfl, z F1 H1 _ e1 S1 (((R.ext e1).set r1 i).set r2 j)⟩
end
/-! ### while -/
/-! ### what is walked -/
structure ItD (K : PySem.W.Frag) (F : Hp) (J : It) (xs : List D) (st : AH → Prop) : Prop where
  go : ∀ {i F' h H}, Ext F F' → Sim K F' h H → st h → i < xs.length → J.go i H
  stop : ∀ {i F' h H}, Ext F F' → Sim K F' h H → st h → xs.length = i → J.stop i H
  yld : ∀ {i F' h H x H' d}, Ext F F' → Sim K F' h H → st h → J.yld i H x H' → xs[i]? = some d → ∃ F'', Ext F' F'' ∧ Sim K F'' h H' ∧ Rep K F'' d x
abbrev WI := EnvD → AH → (List D → (AH → Prop) → AH → Prop) → KX → Prop
def MoI (w : WI) : Prop := ∀ ρ h Q Q' X X', (∀ xs st h, Q xs st h → Q' xs st h) → (∀ x h, X x h → X' x h) → w ρ h Q X → w ρ h Q' X'
def LI (K : PySem.W.Frag) (F : Hp) (R : It → Hp → Prop) : List D → (AH → Prop) → AH → Prop := fun xs st h => ∀ F' H' J, Ext F F' → Sim K F' h H' → ItD K F' J xs st → R J H'
def tI (K : PySem.W.Frag) (E : XK) (w : WI) : TI := fun σ H R => ∃ F ρ h, Sim K F h H ∧ EnvR K F ρ σ ∧ w ρ h (LI K F R) (LX K F E)
structure AI (X : Cx) (E : XK) (tg iter : Expr) (w : WI) : Prop where
  run : PI X tg iter (tI X.K E w)
  mo : MoI w
theorem PI.imp {X : Cx} {tg e : Expr} {t t' : TI} (p : PI X tg e t) (h : ∀ σ H Q, t' σ H Q → t σ H Q) : PI X tg e t' := ⟨fun pins s σ H Q I q => p.run pins s σ H Q I (h _ _ _ q)⟩
def loopD (st : AH → Prop) (g : WG) (tb : WS) (Z : EndsD) : List D → EnvD → AH → Prop
  | [], ρ, h => st h ∧ Z.nx ρ h
  | x :: r, ρ, h => st h ∧ g x ρ h (fun ρ2 h2 => tb { Z with nx := loopD st g tb Z r, ct := loopD st g tb Z r, bk := Z.nx } ρ2 h2) Z.ex
def wFor (wi : WI) (g : WG) (tb : WS) : WS := fun D ρ h => wi ρ h (fun xs st h1 => loopD st g tb D xs ρ h1) D.ex
theorem loopD_mo {st : AH → Prop} {g : WG} {tb : WS} (mg : MoG g) (mb : MoS tb) {Z Z' : EndsD} (l : Z.Le Z') : ∀ (xs : List D) (ρ : EnvD) (h : AH), loopD st g tb Z xs ρ h → loopD st g tb Z' xs ρ h
  | [], ρ, h, q => ⟨q.1, l.nx _ _ q.2⟩
  | x :: r, ρ, h, q => ⟨q.1, mg _ _ _ _ _ _ _ (fun ρ2 h2 z => mb { Z with nx := loopD st g tb Z r, ct := loopD st g tb Z r, bk := Z.nx } _ _ _ ⟨fun _ _ z => loopD_mo mg mb l r _ _ z, l.rt, fun _ _ z => l.nx _ _ z, fun _ _ z => loopD_mo mg mb l r _ _ z, l.ex⟩ z) l.ex q.2⟩
section
variable {X : Cx} {E : XK} {k : Nat} {e tg iter : Expr} {pos : Pos} {body : List Stmt} {tb : WS} {wi : WI} {g : WG}
theorem as_for (c : Cg gz X E k) (hi : AI X E tg iter wi) (hg : AG X E tg g) (hb : ASs X E body tb) (hs : ∀ x, foldedSetIterable iter X.env x = pure x := by intro _; rfl) : AS X E (.For tg iter body [] pos) (wFor wi g tb) := by
  refine ⟨PS.imp (ps_for c.po c.calm hi.run hg.run hb.run hs) fun D σ H ⟨F, ρ, h, S, R, q⟩ => ?_, fun D D' ρ h l q => hi.mo _ _ _ _ _ _ (fun xs st h z => loopD_mo hg.mo hb.mo l _ _ _ z) l.ex q⟩
  refine ⟨F, ρ, h, S, R, hi.mo _ _ _ _ _ _ (fun xs st h1 z => ?_) (fun _ _ z => z) q⟩
  intro F1 H1 J e1 S1 it
  refine ⟨fun i m σ H => m = xs.length - i ∧ i ≤ xs.length ∧ ∃ F2 ρ2 h2, Ext F1 F2 ∧ Sim X.K F2 h2 H ∧ EnvR X.K F2 ρ2 σ ∧ loopD st g tb (LD X.K F D E) (xs.drop i) ρ2 h2, ⟨xs.length, by simp, Nat.zero_le _, F1, ρ, h1, .refl _, S1, R.ext e1, by simpa using z⟩, ?_⟩
  rintro i m σ2 H2 ⟨rfl, hi2, F2, ρ2, h2, e2, S2, R2, z2⟩
  by_cases lt : i < xs.length
  · rw [List.drop_eq_getElem_cons lt] at z2
    obtain ⟨hst, z2⟩ := z2
    refine .inr ⟨it.go e2 S2 hst lt, fun σ' H' => ∃ F3 ρ3 h3, Ext F1 F3 ∧ Sim X.K F3 h3 H' ∧ EnvR X.K F3 ρ3 σ' ∧ loopD st g tb (LD X.K F D E) (xs.drop (i + 1)) ρ3 h3, fun σ' H' p => ⟨xs.length - (i + 1), by omega, rfl, lt, p⟩, fun x H' y => ?_⟩
    obtain ⟨F3, e3, S3, r3⟩ := it.yld e2 S2 hst y (List.getElem?_eq_getElem lt)
    have e13 := e1.trans (e2.trans e3)
    refine ⟨F3, ρ2, h2, _, S3, R2.ext e3, r3, hg.mo _ _ _ _ _ _ _ (fun ρ4 h4 z4 => ?_) (fun _ _ z => LX.ext e13 z) z2⟩
    intro F4 H4 σ4 e4 S4 R4
    have e14 := e13.trans e4
    refine ⟨F4, ρ4, h4, S4, R4, hb.mo _ _ _ _ ⟨fun ρ5 h5 z5 F5 H5 σ5 e5 S5 R5 => ⟨F5, ρ5, h5, (e2.trans e3).trans (e4.trans e5), S5, R5, z5⟩, fun _ _ z => LQ.ext e14 z, fun _ _ z => LS.ext e14 z, fun ρ5 h5 z5 F5 H5 σ5 e5 S5 R5 => ⟨F5, ρ5, h5, (e2.trans e3).trans (e4.trans e5), S5, R5, z5⟩, fun _ _ z => LX.ext e14 z⟩ z4⟩
  · have e : i = xs.length := by omega
    subst e
    rw [List.drop_length] at z2
    exact .inl ⟨it.stop e2 S2 z2.1 rfl, z2.2 F2 H2 σ2 (e1.trans e2) S2 R2⟩
/-! sources -/
def iSeq (wa : WE) : WI := fun ρ h R X => wa ρ h (fun x h1 => match x with
  | .lst xs => R xs (fun _ => True) h1
  | .ref a => ∃ xs, h1 a = some (.lst xs) ∧ R xs (fun h => h a = some (.lst xs)) h1
  | _ => False) X
def iTupD (wa : WE) : WI := fun ρ h R X => wa ρ h (fun x h1 => match x with
  | .tup xs => R xs (fun _ => True) h1
  | .tpl xs => R xs (fun _ => True) h1
  | _ => False) X
def intsD (lo : Int) (n : Nat) : List D := (List.range n).map fun i => D.int (lo + (i : Nat))
def iRng1 (wl : WA) : WI := fun ρ h R X => wl ρ h (fun ds h1 => match ds with
  | [.int j] => -(2 ^ 62) ≤ j ∧ j < 2 ^ 62 ∧ R (intsD 0 j.toNat) (fun _ => True) h1
  | _ => False) X
def iRng2 (wl : WA) : WI := fun ρ h R X => wl ρ h (fun ds h1 => match ds with
  | [.int i, .int j] => (-(2 ^ 62) ≤ i ∧ i < 2 ^ 62 ∧ -(2 ^ 62) ≤ j ∧ j < 2 ^ 62) ∧ R (intsD i (j - i).toNat) (fun _ => True) h1
  | _ => False) X
theorem ItD.list {K : PySem.W.Frag} {F : Hp} {a : Addr} {xs : List D} {st : AH → Prop} (h : ∀ {F' h H}, Ext F F' → Sim K F' h H → st h → ∃ vs, SqL K H a vs ∧ Reps K F' xs vs) : ItD K F (Itl K a) xs st where
  go := fun {i F' h0 H} e S s l => by
    obtain ⟨vs, q, r⟩ := h e S s
    obtain ⟨v, hv, _⟩ := r.get (List.getElem?_eq_getElem l)
    exact ⟨vs, v, q, hv⟩
  stop := fun {i F' h0 H} e S s l => by
    obtain ⟨vs, q, r⟩ := h e S s
    exact ⟨vs, q, by rw [← r.length]; exact Nat.le_of_eq l⟩
  yld := fun {i F' h0 H x H' d} e S s y hd => by
    obtain ⟨rfl, y⟩ := y
    obtain ⟨vs, q, r⟩ := h e S s
    obtain ⟨v, hv, rv⟩ := r.get hd
    have := y vs q
    rw [hv] at this; cases this
    exact ⟨F', .refl _, S, rv⟩
theorem ItD.tup {K : PySem.W.Frag} {F : Hp} {a : Addr} {xs : List D} {vs : List V} (q : SqT K F a vs) (r : Reps K F xs vs) : ItD K F (Itt K a) xs (fun _ => True) where
  go := fun {i F' h0 H} e S s l => by
    obtain ⟨v, hv, _⟩ := r.get (List.getElem?_eq_getElem l)
    exact ⟨vs, v, sqt_of S.fz (e.sqt q), hv⟩
  stop := fun {i F' h0 H} e S s l => ⟨vs, sqt_of S.fz (e.sqt q), by rw [← r.length]; exact Nat.le_of_eq l⟩
  yld := fun {i F' h0 H x H' d} e S s y hd => by
    obtain ⟨rfl, y⟩ := y
    obtain ⟨v, hv, rv⟩ := r.get hd
    have := y vs (sqt_of S.fz (e.sqt q))
    rw [hv] at this; cases this
    exact ⟨F', .refl _, S, rv.ext e⟩
theorem intsD_len {lo : Int} {n : Nat} : (intsD lo n).length = n := by simp [intsD]
theorem intsD_get {lo : Int} {n i : Nat} {d : D} (h : (intsD lo n)[i]? = some d) : d = .int (lo + (i : Nat)) ∧ i < n := by
  unfold intsD at h
  rw [List.getElem?_map] at h
  by_cases c : i < n
  · rw [List.getElem?_range c] at h
    cases h; exact ⟨rfl, c⟩
  · rw [List.getElem?_eq_none (by simpa using c)] at h; cases h
theorem ItD.rng {K : PySem.W.Frag} {F : Hp} {lo : Int} {n : Nat} : ItD K F (Itr lo n) (intsD lo n) (fun _ => True) where
  go := fun {i F' h0 H} e S s l => by rw [intsD_len] at l; exact l
  stop := fun {i F' h0 H} e S s l => by rw [intsD_len] at l; exact Nat.le_of_eq l
  yld := fun {i F' h0 H x H' d} e S s y hd => by
    obtain ⟨rfl, rfl⟩ := y
    obtain ⟨rfl, _⟩ := intsD_get hd
    exact ⟨F', .refl _, S, .int _⟩
variable {wa : WE} {wl : WA} {es : List Expr} {p : Pos}
theorem ai_list {l : Expr} (hl : AE X E l wa) : AI X E tg l (iSeq wa) := by
  refine ⟨PI.imp (pi_list hl.run) fun σ H R ⟨F, ρ, g, S, Rr, q⟩ => ?_, fun ρ h Q Q' X X' hq hx q => hl.mo _ _ _ _ _ _ (fun x h1 z => ?_) hx q⟩
  · refine ⟨F, ρ, g, S, Rr, hl.mo _ _ _ _ _ _ (fun x h1 z => ?_) (fun _ _ z => z) q⟩
    intro F1 H1 v e1 S1 r
    split at z
    · cases r with
      | @lst a xs vs hf rs =>
        exact ⟨a, rfl, ⟨vs, .of (S1.fz _ _ hf)⟩, z F1 H1 _ e1 S1 (ItD.list fun {F' h0 H0} e S _ => ⟨vs, .of (S.fz _ _ (e _ _ hf)), rs.ext e⟩)⟩
    · rename_i a
      obtain ⟨xs, hx, z⟩ := z
      cases r
      obtain ⟨_, u, hu, vs, rfl, rs⟩ := S1.ob _ _ hx
      refine ⟨a, rfl, ⟨vs, .of hu⟩, z F1 H1 _ e1 S1 (ItD.list fun {F' h0 H0} e S st => ?_)⟩
      obtain ⟨_, u', hu', vs', rfl, rs'⟩ := S.ob _ _ st
      exact ⟨vs', .of hu', rs'⟩
    · exact z.elim
  · split at z
    · exact hq _ _ _ z
    · obtain ⟨xs, hx, z⟩ := z
      exact ⟨xs, hx, hq _ _ _ z⟩
    · exact z.elim
theorem ai_tup {l : Expr} (hl : AE X E l wa) : AI X E tg l (iTupD wa) := by
  refine ⟨PI.imp (pi_tup hl.run) fun σ H R ⟨F, ρ, g, S, Rr, q⟩ => ?_, fun ρ h Q Q' X X' hq hx q => hl.mo _ _ _ _ _ _ (fun x h1 z => ?_) hx q⟩
  · refine ⟨F, ρ, g, S, Rr, hl.mo _ _ _ _ _ _ (fun x h1 z => ?_) (fun _ _ z => z) q⟩
    intro F1 H1 v e1 S1 r
    split at z
    · cases r with
      | @tup a xs vs hf rs => exact ⟨a, rfl, ⟨vs, sqt_of S1.fz hf⟩, z F1 H1 _ e1 S1 (ItD.tup hf rs)⟩
    · cases r with
      | @tpl a ob xs vs hf hd rs => exact ⟨a, rfl, ⟨vs, sqt_of S1.fz (.inl (.inr ⟨_, hf⟩))⟩, z F1 H1 _ e1 S1 (ItD.tup (.inl (.inr ⟨_, hf⟩)) rs)⟩
    · exact z.elim
  · split at z
    · exact hq _ _ _ z
    · exact hq _ _ _ z
    · exact z.elim
theorem ai_rng1 {a : Expr} (hm : X.mg "range" = none) (ha : AA X E [a] wl) (hg : Gl X "range" := by rfl) (hs : starEach [a] X.env = [(false, eval a X.env)] := by rfl) : AI X E tg (.Call (.Name "range" p) [a] [] pos) (iRng1 wl) := by
  refine ⟨PI.imp (pi_range1 hg hm ha.run hs) fun σ H R ⟨F, ρ, g, S, Rr, q⟩ => ?_, fun ρ h Q Q' X X' hq hx q => ha.mo _ _ _ _ _ _ (fun ds h1 z => ?_) hx q⟩
  · refine ⟨F, ρ, g, S, Rr, ha.mo _ _ _ _ _ _ (fun ds h1 z => ?_) (fun _ _ z => z) q⟩
    intro F1 H1 vs e1 S1 rs
    split at z
    · cases rs with
      | cons r rs => cases rs; cases r; exact ⟨_, rfl, z.1, z.2.1, z.2.2 F1 H1 _ e1 S1 ItD.rng⟩
    · exact z.elim
  · split at z
    · exact ⟨z.1, z.2.1, hq _ _ _ z.2.2⟩
    · exact z.elim
end
end DL
namespace DL
open PySem PySem.Spec L2
def wipeD (ρ : EnvD) : List Nat → EnvD
  | [] => ρ
  | v :: vs => (wipeD ρ vs).set v none
theorem EnvR.wipe {K : PySem.W.Frag} {F : Hp} {ρ : EnvD} {σ : L2.St} (r : EnvR K F ρ σ) : ∀ vs : List Nat, EnvR K F (wipeD ρ vs) (L2.wipe σ vs)
  | [] => r
  | v :: vs => by
    have ih := EnvR.wipe r vs
    refine ⟨by simp [wipeD, L2.wipe, ih.1], fun i d e => ?_⟩
    show ∃ x, ((L2.wipe σ vs).set v none)[i]? = some (some x) ∧ _
    have e : ((wipeD ρ vs).set v none)[i]? = some (some d) := e
    by_cases c : v = i
    · subst c
      by_cases l : v < (wipeD ρ vs).length
      · rw [List.getElem?_set_self l] at e; cases e
      · rw [List.getElem?_eq_none (by simpa using l)] at e; cases e
    · rw [List.getElem?_set_ne c] at e ⊢
      exact ih.2 i d e
def rm (h : AH) (p : Addr) : AH := fun b => if b = p then none else h b
@[simp] theorem rm_up {h : AH} {p : Addr} {o : AO} : rm (up h p o) p = rm h p := by funext b; unfold rm up; split <;> rfl
theorem rm_none {h : AH} {p : Addr} (e : h p = none) : rm h p = h := by
  funext b; unfold rm; split
  · rename_i c; rw [c, e]
  · rfl
theorem rm_sub {h : AH} {p : Addr} : Sub (rm h p) h := fun a o e => by
  unfold rm at e; split at e
  · cases e
  · exact e
theorem rm_same {h : AH} {p : Addr} : rm h p p = none := by simp [rm]
/-- a target of a comprehension: names alone -/
structure GW (K : PySem.W.Frag) (vs : List Nat) (g : WG) (gv : TG) : Prop where
  to : ∀ {F h H d v ρ σ} {QD : EnvD → AH → Prop} {Q : L2.St → Hp → Prop}, Sim K F h H → Rep K F d v → EnvR K F ρ σ → g d ρ h QD (fun _ _ => False) →
    (∀ ρ2 σ2, EnvR K F ρ2 σ2 → QD ρ2 h → L2.wipe σ2 vs = L2.wipe σ vs → Q σ2 H) → gv v σ H Q
  mo : MoG g
theorem wipe_set {σ : L2.St} {i : Nat} {x : Option V} : ∀ {vs : List Nat}, i ∈ vs → L2.wipe (σ.set i x) vs = L2.wipe σ vs
  | v :: vs, h => by
    show (L2.wipe (σ.set i x) vs).set v none = (L2.wipe σ vs).set v none
    by_cases c : i ∈ vs
    · rw [wipe_set c]
    · have e : v = i := by rcases List.mem_cons.mp h with e | e; exact e.symm; exact absurd e c
      subst e
      have : ∀ {ws : List Nat}, L2.wipe (σ.set v x) ws = (L2.wipe σ ws).set v (if v ∈ ws then none else x) ∨ True := fun {ws} => .inr trivial
      apply List.ext_getElem?
      intro j
      by_cases ej : v = j
      · subst ej
        by_cases l : v < σ.length
        · rw [List.getElem?_set_self (by rw [L2.wipe_length, List.length_set]; exact l), List.getElem?_set_self (by rw [L2.wipe_length]; exact l)]
        · rw [List.getElem?_eq_none (by simp [L2.wipe_length]; omega), List.getElem?_eq_none (by simp [L2.wipe_length]; omega)]
      · rw [List.getElem?_set_ne ej, List.getElem?_set_ne ej]
        have q : ∀ (ws : List Nat) (a b : L2.St), (a.length = b.length) → (∀ j, v ≠ j → a[j]? = b[j]?) → ∀ j, v ≠ j → (L2.wipe a ws)[j]? = (L2.wipe b ws)[j]? := by
          intro ws
          induction ws with
          | nil => intro a b _ h j hj; exact h j hj
          | cons w ws ih =>
            intro a b hl h j hj
            show ((L2.wipe a ws).set w none)[j]? = ((L2.wipe b ws).set w none)[j]?
            by_cases c : w = j
            · subst c
              by_cases l : w < a.length
              · rw [List.getElem?_set_self (by rw [L2.wipe_length]; exact l), List.getElem?_set_self (by rw [L2.wipe_length, ← hl]; exact l)]
              · rw [List.getElem?_eq_none (by simp [L2.wipe_length]; omega), List.getElem?_eq_none (by simp [L2.wipe_length]; omega)]
            · rw [List.getElem?_set_ne c, List.getElem?_set_ne c]
              exact ih a b hl h j hj
        exact q vs _ _ (by simp) (fun j hj => by rw [List.getElem?_set_ne hj]) j ej
theorem gw_name {K : PySem.W.Frag} {vs : List Nat} {i : Nat} (hi : i ∈ vs) : GW K vs (gN i) (gName i) :=
  ⟨fun {F h H d v ρ σ QD Q} S r R q k => k _ _ (R.set r i) q (wipe_set hi), fun d ρ h Q Q' X X' hq _ q => hq _ _ q⟩
/-- i, j, .. : the names of a tuple target -/
def gsN : List Nat → WGs
  | [] => gsNil
  | i :: is => gsCons (gN i) (gsN is)
def gvN : List Nat → TGs
  | [] => L2.gNil
  | i :: is => L2.gCons (gName i) (gvN is)
theorem gw_names {K : PySem.W.Frag} {vs : List Nat} : ∀ {is : List Nat}, (∀ i ∈ is, i ∈ vs) → ∀ {F h H ds us ρ σ} {QD : EnvD → AH → Prop} {Q : L2.St → Hp → Prop}, Sim K F h H → Reps K F ds us → EnvR K F ρ σ → gsN is ds ρ h QD (fun _ _ => False) →
    (∀ ρ2 σ2, EnvR K F ρ2 σ2 → QD ρ2 h → L2.wipe σ2 vs = L2.wipe σ vs → Q σ2 H) → gvN is us σ H Q
  | [], _, F, h, H, ds, us, ρ, σ, QD, Q, S, r, R, q, k => by
    obtain ⟨rfl, q⟩ := q
    cases r
    exact ⟨rfl, k ρ σ R q rfl⟩
  | i :: is, hi, F, h, H, ds, us, ρ, σ, QD, Q, S, r, R, q, k => by
    obtain ⟨d, ds', rfl, q⟩ := q
    cases r with
    | cons r rr =>
      refine ⟨_, _, rfl, ?_⟩
      refine gw_names (is := is) (fun j hj => hi j (List.mem_cons_of_mem _ hj)) S rr (R.set r i) q fun ρ2 σ2 R2 q2 e2 => k ρ2 σ2 R2 q2 (e2.trans (wipe_set (hi i (List.mem_cons_self ..))))
theorem mo_gsN : ∀ is : List Nat, MoGs (gsN is)
  | [] => fun d ρ h Q Q' X X' hq _ q => ⟨q.1, hq _ _ q.2⟩
  | i :: is => fun d ρ h Q Q' X X' hq hx ⟨x, xs, e, q⟩ => ⟨x, xs, e, mo_gsN is _ _ _ _ _ _ _ hq hx q⟩
theorem mo_gT {n : Nat} {r : WGs} (m : MoGs r) : MoG (gT n r) := fun d ρ h Q Q' X X' hq hx ⟨xs, e, l, q⟩ => ⟨xs, e, l, m _ _ _ _ _ _ _ hq hx q⟩
theorem gw_tup {K : PySem.W.Frag} {vs : List Nat} {is : List Nat} (hi : ∀ i ∈ is, i ∈ vs) : GW K vs (gT is.length (gsN is)) (gTup K is.length (gvN is)) := by
  refine ⟨fun {F h H d v ρ σ QD Q} S r R q k => ?_, mo_gT (mo_gsN is)⟩
  obtain ⟨xs, rfl, l, q⟩ := q
  cases r with
  | @tup a _ us hs rs => exact ⟨a, us, rfl, sqt_of S.fz hs, by rw [← rs.length]; exact l, gw_names hi S rs R q k⟩
def compD (st : AH → Prop) (g : WG) (tt : WT) (te : WE) (vs : List Nat) (ρ : EnvD) (p : Addr) : List D → AH → (AH → Prop) → Prop
  | [], h, Q => st h ∧ Q h
  | x :: r, h, Q => st h ∧ g x (wipeD ρ vs) h (fun ρ2 h2 => tt ρ2 h2 (fun b h3 => if b = true then te ρ2 h3 (fun y h4 => ∃ acc, h4 p = some (.lst acc) ∧ acc.length < sizeLine ∧ compD st g tt te vs ρ p r (up h4 p (.lst (acc ++ [y]))) Q) (fun _ _ => False) else compD st g tt te vs ρ p r h3 Q) (fun _ _ => False)) (fun _ _ => False)
/-- what becomes of the list that a comprehension made -/
def endL (m : Bool) (p : Addr) (Q : KD) : AH → Prop := fun h => ∃ acc, h p = some (.lst acc) ∧ if m = true then Q (.ref p) h else Q (.lst acc) (rm h p)
def wLc (m : Bool) (wi : WI) (g : WG) (tt : WT) (te : WE) (vs : List Nat) : WE := fun ρ h Q X => wi ρ h (fun xs st h1 => ∀ p, h1 p = none → compD st g tt te vs ρ p xs (up h1 p (.lst [])) (endL m p Q)) X
def wYes : WT := fun _ h Q _ => Q true h
theorem mo_yes : MoT wYes := fun ρ h Q Q' X X' hq _ q => hq _ _ q
theorem compD_mo {st : AH → Prop} {g : WG} {tt : WT} {te : WE} {vs : List Nat} {ρ : EnvD} {p : Addr} (mg : MoG g) (mt : MoT tt) (me : MoE te) {Q Q' : AH → Prop} (hq : ∀ h, Q h → Q' h) : ∀ (xs : List D) (h : AH), compD st g tt te vs ρ p xs h Q → compD st g tt te vs ρ p xs h Q'
  | [], h, q => ⟨q.1, hq _ q.2⟩
  | x :: r, h, q => ⟨q.1, mg _ _ _ _ _ _ _ (fun ρ2 h2 z => mt _ _ _ _ _ _ (fun b h3 z => by
      split at z
      · rename_i c; rw [if_pos c]; exact me _ _ _ _ _ _ (fun y h4 ⟨acc, e, l, z⟩ => ⟨acc, e, l, compD_mo mg mt me hq r _ z⟩) (fun _ _ z => z) z
      · rename_i c; rw [if_neg c]; exact compD_mo mg mt me hq r _ z) (fun _ _ z => z) z) (fun _ _ z => z) q.2⟩
theorem endL_mo {m : Bool} {p : Addr} {Q Q' : KD} (hq : ∀ d h, Q d h → Q' d h) : ∀ h, endL m p Q h → endL m p Q' h := fun h ⟨acc, e, z⟩ => ⟨acc, e, by
  split at z
  · rename_i c; rw [if_pos c]; exact hq _ _ z
  · rename_i c; rw [if_neg c]; exact hq _ _ z⟩
theorem endL_to {K : PySem.W.Frag} {F : Hp} {h : AH} {H : Hp} {m : Bool} {p : Addr} {Q : VK} (S : Sim K F h H) (q : endL m p (LQ K F Q) h) : Q (.ref p) H := by
  obtain ⟨acc, e, q⟩ := q
  split at q
  · exact q.at S (.ref p)
  · obtain ⟨f, u, hu, us, rfl, rs⟩ := S.ob _ _ e
    obtain ⟨e2, S2⟩ := S.frz e hu rm_same rm_sub
    exact q _ _ _ e2 S2 (.lst upd_same (rs.ext e2))
theorem mo_lc {m : Bool} {wi : WI} {g : WG} {tt : WT} {te : WE} {vs : List Nat} (mi : MoI wi) (mg : MoG g) (mt : MoT tt) (me : MoE te) : MoE (wLc m wi g tt te vs) := fun ρ h Q Q' X X' hq hx q =>
  mi _ _ _ _ _ _ (fun xs st h1 z p hp => compD_mo mg mt me (endL_mo hq) _ _ (z p hp)) hx q
/-- the tests of a clause -/
structure ATs (X : Cx) (E : XK) (ifs : List Expr) (w : WT) : Prop where
  run : PTs X ifs (tT X.K E w)
  mo : MoT w
theorem ats_nil {X : Cx} {E : XK} : ATs X E [] wYes := ⟨⟨fun pins s σ H Q I ⟨F, ρ, h, S, R, q⟩ => pts_nil.run pins s σ H Q I (q F H (.refl F) S)⟩, mo_yes⟩
theorem ats_one {X : Cx} {E : XK} {c : Expr} {w : WT} (h : AT X E c w) : ATs X E [c] w := ⟨pts_one h.run, h.mo⟩
section
variable {X : Cx} {E : XK} {k : Nat} {elt tg iter : Expr} {ifs : List Expr} {scope : Scope} {own : List (Str × Nat)} {pos : Pos} {wi : WI} {g : WG} {gv : TG} {tt : WT} {te : WE}
/-- the block of a comprehension: nothing is let out of it -/
abbrev Blk (X : Cx) (scope : Scope) (s : Shared) (H : Hp) (C : Addr) (cl : List (Str × Addr)) (fp : List Addr) : Cx := X.blk s H scope (compEnvC scope cl C X.env) fp
theorem cg_blk (c : Cg gz X E k) (s : Shared) (H : Hp) (C : Addr) (cl : List (Str × Addr)) (fp : List Addr) (po : PassesOwn (model X.prog X.w) X.A (compEnvC scope cl C X.env) (fun _ _ => False) := PassesOwn.never) : Cg gz (Blk X scope s H C cl fp) E0 k :=
  ⟨c.room, c.gd, c.calm, c.nd, passL, po⟩
theorem to_lc {m : Bool} (mi : MoI wi) (mg : MoG g) (mt : MoT tt) (me : MoE te) (gw : GW X.K (own.map (·.2)) g gv) {σ : L2.St} {H : Hp} {Q : VK} (h : tE X.K E (wLc m wi g tt te (own.map (·.2))) σ H Q) :
    tLc (tI X.K E wi) gv (tT X.K E0 tt) (tE X.K E0 te) (own.map (·.2)) σ H Q := by
  obtain ⟨F, ρ, h0, S, R, q⟩ := h
  refine ⟨F, ρ, h0, S, R, mi _ _ _ _ _ _ (fun xs st h1 z => ?_) (fun _ _ z => z) q⟩
  intro F1 H1 J e1 S1 it D hD
  obtain ⟨f1, g1⟩ := S1.free hD
  have z := z D g1
  refine ⟨fun i n H => n = xs.length - i ∧ i ≤ xs.length ∧ ∃ F2 h2, Ext F1 F2 ∧ Sim X.K F2 h2 H ∧ compD st g tt te (own.map (·.2)) ρ D (xs.drop i) h2 (endL m D (LQ X.K F2 Q)),
    ⟨xs.length, by simp, Nat.zero_le _, F1, _, .refl _, S1.newM hD (o := .lst []) ⟨[], rfl, .nil⟩, compD_mo mg mt me (endL_mo fun _ _ z => LQ.ext e1 z) _ _ (by simpa using z)⟩, ?_⟩
  rintro i n H2 ⟨rfl, hi, F2, h2, e2, S2, z2⟩
  by_cases lt : i < xs.length
  · rw [List.drop_eq_getElem_cons lt] at z2
    obtain ⟨hst, z2⟩ := z2
    refine .inr ⟨it.go e2 S2 hst lt, fun H' => ∃ F3 h3, Ext F1 F3 ∧ Sim X.K F3 h3 H' ∧ compD st g tt te (own.map (·.2)) ρ D (xs.drop (i + 1)) h3 (endL m D (LQ X.K F3 Q)), fun H' p => ⟨xs.length - (i + 1), by omega, rfl, lt, p⟩, fun x H' y => ?_⟩
    obtain ⟨F3, e3, S3, r3⟩ := it.yld e2 S2 hst y (List.getElem?_eq_getElem lt)
    have R3 := (R.ext (e1.trans (e2.trans e3))).wipe (own.map (·.2))
    refine gw.to S3 r3 R3 z2 fun ρ4 σ4 R4 z4 ew => ⟨?_, ?_⟩
    · rw [ew]
      have : ∀ vs : List Nat, L2.wipe (L2.wipe σ vs) vs = L2.wipe σ vs := by
        intro vs
        have key : ∀ (us vs : List Nat), (∀ u ∈ us, u ∈ vs) → L2.wipe (L2.wipe σ us) vs = L2.wipe σ vs := by
          intro us
          induction us with
          | nil => intro vs _; rfl
          | cons u us ih =>
            intro vs hu
            show L2.wipe ((L2.wipe σ us).set u none) vs = _
            rw [wipe_set (hu u (List.mem_cons_self ..)), ih vs fun w hw => hu w (List.mem_cons_of_mem _ hw)]
        exact key vs vs fun _ h => h
      rw [this]
    · refine ⟨F3, ρ4, h2, S3, R4, mt _ _ _ _ _ _ (fun b h5 z5 => ?_) (fun _ _ z => z.elim) z4⟩
      intro F5 H5 e5 S5
      split at z5
      · rename_i cb
        rw [if_pos cb]
        refine ⟨F5, ρ4, h5, S5, R4.ext e5, me _ _ _ _ _ _ (fun y h6 z6 => ?_) (fun _ _ z => z.elim) z5⟩
        intro F6 H6 v6 e6 S6 r6
        obtain ⟨acc, ea, la, z6⟩ := z6
        obtain ⟨fa, u, hu, us, rfl, rs⟩ := S6.ob _ _ ea
        exact ⟨us, hu, by rw [← rs.length]; exact la, F6, _, e2.trans (e3.trans (e5.trans e6)), S6.put ea (o := .lst (acc ++ [y])) ⟨_, rfl, rs.append (.cons r6 .nil)⟩, compD_mo mg mt me (endL_mo fun _ _ z => LQ.ext (e3.trans (e5.trans e6)) z) _ _ z6⟩
      · rename_i cb
        rw [if_neg cb]
        exact ⟨F5, _, e2.trans (e3.trans e5), S5, compD_mo mg mt me (endL_mo fun _ _ z => LQ.ext (e3.trans e5) z) _ _ z5⟩
  · have e : i = xs.length := by omega
    subst e
    rw [List.drop_length] at z2
    exact .inl ⟨it.stop e2 S2 z2.1 rfl, endL_to S2 z2.2⟩
theorem ae_lc (m : Bool) (c : Cg gz X E k) (hi : AI X E tg iter wi) (ok : BlkOk X.N X.env.scope scope own) (gw : GW X.K (own.map (·.2)) g gv)
    (hg : ∀ (s : Shared) (H : Hp) (C : Addr) (cl : List (Str × Addr)) (fp : List Addr), PG (Blk X scope s H C cl fp) tg gv)
    (ht : ∀ (s : Shared) (H : Hp) (C : Addr) (cl : List (Str × Addr)) (fp : List Addr), Cg gz (Blk X scope s H C cl fp) E0 k → ATs (Blk X scope s H C cl fp) E0 ifs tt)
    (he : ∀ (s : Shared) (H : Hp) (C : Addr) (cl : List (Str × Addr)) (fp : List Addr), Cg gz (Blk X scope s H C cl fp) E0 k → AE (Blk X scope s H C cl fp) E0 elt te)
    (hs : ∀ x, foldedSetIterable iter X.env x = pure x := by intro _; rfl) :
    AE X E (.ListComp elt [⟨tg, iter, ifs, 0⟩] scope pos) (wLc m wi g tt te (own.map (·.2))) :=
  have mg := gw.mo
  have mt := (ht X.s_0 X.H_0 0 [] [] (cg_blk c _ _ _ _ _)).mo
  have me := (he X.s_0 X.H_0 0 [] [] (cg_blk c _ _ _ _ _)).mo
  ⟨PE.imp (pe_lc (tt := tT X.K E0 tt) (te := tE X.K E0 te) c.calm c.nd hi.run ok hg (fun s H C cl fp => (ht s H C cl fp (cg_blk c s H C cl fp)).run) (fun s H C cl fp => (he s H C cl fp (cg_blk c s H C cl fp)).run) hs) fun σ H Q h => to_lc hi.mo mg mt me gw h, mo_lc hi.mo mg mt me⟩
theorem as_setLc (m : Bool) (i : Nat) {y : Str} {py spos : Pos} (c : Cg gz X E k) (hi : AI X E tg iter wi) (ok : BlkOk X.N X.env.scope scope own) (gw : GW X.K (own.map (·.2)) g gv)
    (hg : ∀ (s : Shared) (H : Hp) (C : Addr) (cl : List (Str × Addr)) (fp : List Addr), PG (Blk X scope s H C cl fp) tg gv)
    (ht : ∀ (s : Shared) (H : Hp) (C : Addr) (cl : List (Str × Addr)) (fp : List Addr), Cg gz (Blk X scope s H C cl fp) E0 k → ATs (Blk X scope s H C cl fp) E0 ifs tt)
    (he : ∀ (s : Shared) (H : Hp) (C : Addr) (cl : List (Str × Addr)) (fp : List Addr), Cg gz (Blk X scope s H C cl fp) E0 k → AE (Blk X scope s H C cl fp) E0 elt te)
    (hy : X.N[i]? = some y := by rfl) (hyl : X.env.scope.names.lookup y = some .local := by rfl)
    (hsw : swapsWith (.ListComp elt [⟨tg, iter, ifs, 0⟩] scope pos) (some (.Name y py)) spos.line X.env = pure true := by exact sw_true rfl rfl rfl (by decide +kernel))
    (hs : ∀ x, foldedSetIterable iter X.env x = pure x := by intro _; rfl) :
    AS X E (.Assign [.Name y py] (.ListComp elt [⟨tg, iter, ifs, 0⟩] scope pos) spos) (wAsg (wLc m wi g tt te (own.map (·.2))) (gN i)) := by
  have mg := gw.mo
  have mt := (ht X.s_0 X.H_0 0 [] [] (cg_blk c _ _ _ _ _)).mo
  have me := (he X.s_0 X.H_0 0 [] [] (cg_blk c _ _ _ _ _)).mo
  have P := ps_setLc (tt := tT X.K E0 tt) (te := tE X.K E0 te) (spos := spos) (pos := pos) (i := i) c.calm c.nd hy hyl hsw hi.run ok hg (fun s H C cl fp => (ht s H C cl fp (cg_blk c s H C cl fp)).run) (fun s H C cl fp => (he s H C cl fp (cg_blk c s H C cl fp)).run) hs
  have M := mo_lc (m := m) (vs := own.map (·.2)) hi.mo mg mt me
  refine ⟨PS.imp P fun D σ H h => ?_, mo_asg M fun d ρ h Q Q' X X' hq _ q => hq _ _ q⟩
  obtain ⟨F, ρ, h0, S, R, q⟩ := h
  refine to_lc (m := m) hi.mo mg mt me gw ⟨F, ρ, h0, S, R, M _ _ _ _ _ _ (fun x h1 z => ?_) (fun _ _ z => z) q⟩
  intro F1 H1 v e1 S1 r
  exact z F1 H1 _ e1 S1 ((R.ext e1).set r i)
end
end DL
namespace DL
open PySem PySem.Spec L2 C8
/-! ### subscripts -/
def dIx (x y : D) (h : AH) (Q : KD) : Prop := match y with
  | .int i => ∃ xs d, seqOf h x = some xs ∧ atI xs i = some d ∧ Q d h
  | _ => False
theorem Reps.atI {K : PySem.W.Frag} {F : Hp} {xs : List D} {vs : List V} {i : Int} {d : D} (r : Reps K F xs vs) (e : L2.atI xs i = some d) : ∃ v, L2.atI vs i = some v ∧ Rep K F d v := by
  unfold L2.atI at *
  rw [← r.length]
  cases q : ixN xs.length i with
  | none => rw [q] at e; cases e
  | some j =>
    rw [q] at e
    exact r.get (i := j) e
def rIxD2 (K : PySem.W.Frag) : R2 := fun x y H Q => rIxL K x y H Q ∨ rIxT K x y H Q
theorem ix_two {X : Cx} : IxR X (rIxD2 X.K) := IxR.or ix_list ix_tup
theorem dIx_ok {K : PySem.W.Frag} : OpD K (rIxD2 K) dIx where
  to := by
    intro F h H x y vx vy Q S rx ry q
    unfold dIx at q
    split at q
    · obtain ⟨xs, d, e1, e2, q⟩ := q
      cases ry
      obtain ⟨a, vs, rfl, hs, rs⟩ := S.seqOf rx e1
      obtain ⟨v, hv, rv⟩ := rs.atI e2
      rcases hs with hs | hs
      · exact .inl ⟨a, vs, _, v, rfl, rfl, hs, hv, q.at S rv⟩
      · exact .inr ⟨a, vs, _, v, rfl, rfl, hs, hv, q.at S rv⟩
    · exact q.elim
  mo := by
    intro x y h Q Q' hq q
    unfold dIx at *
    split at q
    · obtain ⟨xs, d, e1, e2, q⟩ := q
      exact ⟨xs, d, e1, e2, hq _ _ q⟩
    · exact q.elim
section
variable {X : Cx} {E : XK} {k : Nat} {a b e o i : Expr} {es : List Expr} {wa wb wo wi : WE} {wl : WA} {pos : Pos}
theorem ae_ix (ha : AE X E a wa) (hb : AE X E b wb) (hs : PlainIx b := by exact fun _ _ => rfl) : AE X E (.Subscript a b pos) (wOp dIx wa wb) :=
  ⟨PE.imp (pe_ix ix_two ha.run hb.run hs) fun σ H Q h => two dIx_ok ha hb h, mo_op (dIx_ok (K := X.K)).mo ha.mo hb.mo⟩
/-! ### slices -/
abbrev WO := EnvD → AH → (Option Int → AH → Prop) → KX → Prop
def woNone : WO := fun _ h Q _ => Q none h
def woSome (a : WE) : WO := fun ρ h Q X => a ρ h (fun x h1 => match x with
  | .int i => Q (some i) h1
  | _ => False) X
def MoO (w : WO) : Prop := ∀ ρ h Q Q' X X', (∀ d h, Q d h → Q' d h) → (∀ x h, X x h → X' x h) → w ρ h Q X → w ρ h Q' X'
def LO (K : PySem.W.Frag) (F : Hp) (Q : Option Int → Hp → Prop) : Option Int → AH → Prop := fun b h' => ∀ F' H', Ext F F' → Sim K F' h' H' → Q b H'
structure AO_ (X : Cx) (E : XK) (e : Option Expr) (w : WO) : Prop where
  run : PO X e (fun σ H Q => ∃ F ρ h, Sim X.K F h H ∧ EnvR X.K F ρ σ ∧ w ρ h (LO X.K F Q) (LX X.K F E))
  mo : MoO w
theorem ao_none : AO_ X E none woNone := by
  refine ⟨⟨fun pins s σ H Q I h => ?_⟩, fun ρ h Q Q' X X' hq _ q => hq _ _ q⟩
  obtain ⟨F, ρ, h, S, R, q⟩ := h
  exact po_none.run pins s σ H Q I (q F H (.refl F) S)
theorem ao_some (ha : AE X E a wa) : AO_ X E (some a) (woSome wa) := by
  refine ⟨⟨fun pins s σ H Q I h => ?_⟩, fun ρ h Q Q' X X' hq hx q => ha.mo _ _ _ _ _ _ (fun x h1 z => ?_) hx q⟩
  · obtain ⟨F, ρ, h, S, R, q⟩ := h
    refine (po_some ha.run).run pins s σ H Q I ⟨F, ρ, h, S, R, ha.mo _ _ _ _ _ _ (fun x h1 z => ?_) (fun _ _ z => z) q⟩
    intro F1 H1 v e1 S1 r
    split at z
    · cases r; exact ⟨_, rfl, z F1 H1 e1 S1⟩
    · exact z.elim
  · split at z
    · exact hq _ _ z
    · exact z.elim
def cutD {α : Type} (xs : List α) (lo hi : Option Int) : List α := (xs.drop (HT.sIx xs.length 0 lo)).take (HT.sIx xs.length xs.length hi - HT.sIx xs.length 0 lo)
theorem Reps.cut {K : PySem.W.Frag} {F : Hp} {xs : List D} {vs : List V} (r : Reps K F xs vs) (lo hi : Option Int) : Reps K F (cutD xs lo hi) (cutV vs lo hi) := by
  unfold cutD cutV
  rw [r.length]
  exact (r.drop _).take _
def dSl (m : Bool) (x : D) (lo hi : Option Int) (h : AH) (Q : KD) : Prop := match x with
  | .tup xs => Q (.tup (cutD xs lo hi)) h
  | .str s => s.length ≤ sizeLine ∧ Q (.str (Txt.slice s lo hi)) h
  | .ref a => match h a with
    | some (.lst xs) => newL m (cutD xs lo hi) h Q
    | some (.lck xs) => newL m (cutD xs lo hi) h Q
    | _ => False
  | .lst xs => newL m (cutD xs lo hi) h Q
  | .lk xs => newL m (cutD xs lo hi) h Q
  | _ => False
theorem dSl_mo {m : Bool} {x : D} {lo hi : Option Int} {h : AH} {Q Q' : KD} (hq : ∀ d h, Q d h → Q' d h) (q : dSl m x lo hi h Q) : dSl m x lo hi h Q' := by
  unfold dSl at *
  split at q
  · exact hq _ _ q
  · exact ⟨q.1, hq _ _ q.2⟩
  · split at q
    · exact newL_mo hq q
    · exact newL_mo hq q
    · exact q.elim
  · exact newL_mo hq q
  · exact newL_mo hq q
  · exact q.elim
def wSl (m : Bool) (a : WE) (lo hi : WO) : WE := fun ρ h Q X => a ρ h (fun x h1 => lo ρ h1 (fun l h2 => hi ρ h2 (fun u h3 => dSl m x l u h3 Q) X) X) X
def rSlD (K : PySem.W.Frag) : V → Option Int → Option Int → Hp → VK → Prop := fun x lo hi H Q => rSlA K x lo hi H Q ∨ (rSlX x lo hi H Q ∨ rSlL K x lo hi H Q)
theorem sl_all : SlR X (rSlD X.K) := SlR.or sl_tupA (SlR.or sl_txt sl_list)
theorem cut_whole {α : Type} {xs : List α} {lo hi : Option Int} (h : HT.sIx xs.length 0 lo = 0 ∧ HT.sIx xs.length xs.length hi = xs.length) : cutD xs lo hi = xs := by
  unfold cutD; rw [h.1, h.2]; simp
theorem dSl_to {K : PySem.W.Frag} {F : Hp} {h : AH} {H : Hp} {m : Bool} {x : D} {v : V} {lo hi : Option Int} {Q : VK} (S : Sim K F h H) (r : Rep K F x v) (q : dSl m x lo hi h (LQ K F Q)) : rSlD K v lo hi H Q := by
  unfold dSl at q
  split at q
  · cases r with
    | @tup a xs vs hs rs =>
      refine .inl ⟨a, vs, rfl, sqt_of S.fz hs, fun w => ?_, fun _ => S.newT (rs.cut lo hi) q⟩
      rw [cut_whole (by rw [rs.length]; exact w)] at q
      exact q.at S (.tup hs rs)
  · cases r; exact .inr (.inl ⟨_, rfl, q.1, q.2.at S (.str _)⟩)
  · rename_i a
    cases r
    split at q
    · rename_i xs e
      obtain ⟨_, u, hu, vs, rfl, rs⟩ := S.ob _ _ e
      exact .inr (.inr ⟨a, vs, rfl, .of hu, S.newL (rs.cut lo hi) q⟩)
    · rename_i xs e
      obtain ⟨_, u, hu, o, vs, rfl, rs⟩ := S.ob _ _ e
      exact .inr (.inr ⟨a, vs, rfl, .inl (.inr ⟨o, hu⟩), S.newL (rs.cut lo hi) q⟩)
    · exact q.elim
  · cases r with
    | @lst a xs vs hs rs => exact .inr (.inr ⟨a, vs, rfl, .of (S.fz _ _ hs), S.newL (rs.cut lo hi) q⟩)
  · cases r with
    | @lk a xs vs hs rs => exact .inr (.inr ⟨a, vs, rfl, Ext.sql S.fz hs, S.newL (rs.cut lo hi) q⟩)
  · exact q.elim
theorem ae_sl (m : Bool) {lo hi : Option Expr} {wlo whi : WO} {p2 : Pos} (ha : AE X E a wa) (hl : AO_ X E lo wlo) (hh : AO_ X E hi whi) : AE X E (.Subscript a (.Slice lo hi none p2) pos) (wSl m wa wlo whi) := by
  refine ⟨PE.imp (pe_slice sl_all ha.run hl.run hh.run) fun σ H Q ⟨F, ρ, g, S, R, q⟩ => ?_, fun ρ h Q Q' X X' hq hx q => ha.mo _ _ _ _ _ _ (fun x h1 z => hl.mo _ _ _ _ _ _ (fun l h2 z => hh.mo _ _ _ _ _ _ (fun u h3 z => dSl_mo hq z) hx z) hx z) hx q⟩
  refine ⟨F, ρ, g, S, R, ha.mo _ _ _ _ _ _ (fun x h1 z => ?_) (fun _ _ z => z) q⟩
  intro F1 H1 v e1 S1 r
  refine ⟨F1, ρ, h1, S1, R.ext e1, hl.mo _ _ _ _ _ _ (fun l h2 z => ?_) (fun _ _ z => LX.ext e1 z) z⟩
  intro F2 H2 e2 S2
  refine ⟨F2, ρ, h2, S2, R.ext (e1.trans e2), hh.mo _ _ _ _ _ _ (fun u h3 z => ?_) (fun _ _ z => LX.ext (e1.trans e2) z) z⟩
  intro F3 H3 e3 S3
  exact dSl_to S3 (r.ext (e2.trans e3)) (dSl_mo (fun _ _ z => LQ.ext (e1.trans (e2.trans e3)) z) z)
/-! ### x[i] = v, of a list -/
def gSubL (wo wi : WE) : WG := fun d ρ h Q X => wo ρ h (fun o h1 => wi ρ h1 (fun i h2 => ∃ a xs k j, o = .ref a ∧ i = .int k ∧ h2 a = some (.lst xs) ∧ ixN xs.length k = some j ∧ Q ρ (up h2 a (.lst (xs.set j d)))) X) X
theorem ag_subL (ho : AE X E o wo) (hi : AE X E i wi) (ha : ∀ v, assign (.Subscript o i pos) X.env v = (do
      let ov ← holding [v] (eval o X.env)
      let iv ← holding [v, ov] (eval i X.env)
      standAt pos
      holding [v, ov, iv] (setItem ov iv v)
      release [v, ov, iv] []) := by intro _; rfl) : AG X E (.Subscript o i pos) (gSubL wo wi) := by
  refine ⟨PG.imp (pg_sub ho.run hi.run set_list ha) fun v σ H Q ⟨F, ρ, g, d, S, R, r, q⟩ => ?_, fun d ρ h Q Q' X X' hq hx q => ho.mo _ _ _ _ _ _ (fun x h1 z => hi.mo _ _ _ _ _ _ (fun y h2 ⟨a, xs, k, j, e1, e2, e3, e4, z⟩ => ⟨a, xs, k, j, e1, e2, e3, e4, hq _ _ z⟩) hx z) hx q⟩
  refine ⟨F, ρ, g, S, R, ho.mo _ _ _ _ _ _ (fun x h1 z => ?_) (fun _ _ z => z) q⟩
  intro F1 H1 vo e1 S1 ro
  refine ⟨F1, ρ, h1, S1, R.ext e1, hi.mo _ _ _ _ _ _ (fun y h2 z => ?_) (fun _ _ z => LX.ext e1 z) z⟩
  intro F2 H2 vi e2 S2 ri
  obtain ⟨a, xs, k, j, rfl, rfl, ea, ej, z⟩ := z
  cases ri
  have ro2 := ro.ext e2
  cases ro2
  obtain ⟨_, u, hu, vs, rfl, rs⟩ := S2.ob _ _ ea
  exact ⟨a, vs, k, j, rfl, rfl, hu, by rw [← rs.length]; exact ej, z F2 _ σ (e1.trans e2) (S2.put ea (o := .lst (xs.set j d)) ⟨_, rfl, rs.set (r.ext (e1.trans e2)) j⟩) (R.ext (e1.trans e2))⟩
/-! ### methods of a list that changes it -/
structure MeD (K : PySem.W.Frag) (T : String) (rv : V → List V → Hp → VK → Prop) (f : D → List D → AH → KD → Prop) (ty : D → AH → Prop) : Prop where
  to : ∀ {F h H x xs vx vs} {Q : VK}, Sim K F h H → Rep K F x vx → Reps K F xs vs → f x xs h (LQ K F Q) → rv vx vs H Q
  ty : ∀ {F h H x vx}, Sim K F h H → Rep K F x vx → ty x h → tyV K T vx H
  mo : ∀ {x xs h} {Q Q' : KD}, (∀ d h, Q d h → Q' d h) → f x xs h Q → f x xs h Q'
def wMethT (ty : D → AH → Prop) (f : D → List D → AH → KD → Prop) (wo : WE) (wl : WA) : WE := fun ρ h Q X => wo ρ h (fun x h1 => ty x h1 ∧ wl ρ h1 (fun xs h2 => f x xs h2 Q) X) X
theorem ae_bm {T id : String} {name : Str} {rv : V → List V → Hp → VK → Prop} {f : D → List D → AH → KD → Prop} {ty : D → AH → Prop} {apos cpos : Pos} (M : MeD X.K T rv f ty) (hm : MtR X id rv)
    (pa : PlainAttrs T) (slot : Slot T name id) (hty : typeOf (.builtin id) = pure (.type "method_descriptor")) (ho : AE X E o wo) (ha : AA X E (e :: es) wl)
    (hbase : attributeBase o name X.env (eval o X.env) = eval o X.env := by rfl)
    (hfew : ((backTo cpos (starEach (e :: es) X.env)).all (fun x => !x.1) && (backToKw cpos (keywordEach [] X.env)).all (fun x => x.1.isSome)
      && decide ((e :: es).length + ([] : List Keyword).length + (if ([] : List Keyword).isEmpty then 0 else 1) < 30)) = true := by rfl)
    (hline : (apos.endLine == cpos.line) = true := by rfl) (hs : starEach (e :: es) X.env = (false, eval e X.env) :: starEach es X.env := by rfl) (hplain : (backTo cpos (starEach es X.env)).any (·.1) = false := by rfl) :
    AE X E (.Call (.Attribute o name apos) (e :: es) [] cpos) (wMethT ty f wo wl) := by
  refine ⟨PE.imp (pe_bm pa slot hty hm ho.run ha.run hbase hfew hline hs hplain) fun σ H Q ⟨F, ρ, g, S, R, q⟩ => ?_, fun ρ h Q Q' X X' hq hx q => ho.mo _ _ _ _ _ _ (fun x h1 z => ⟨z.1, ha.mo _ _ _ _ _ _ (fun xs h2 z => M.mo hq z) hx z.2⟩) hx q⟩
  refine ⟨F, ρ, g, S, R, ho.mo _ _ _ _ _ _ (fun x h1 z => ?_) (fun _ _ z => z) q⟩
  intro F1 H1 vx e1 S1 rx
  refine ⟨M.ty S1 rx z.1, F1, ρ, h1, S1, R.ext e1, ha.mo _ _ _ _ _ _ (fun xs h2 z => ?_) (fun _ _ z => LX.ext e1 z) z.2⟩
  intro F2 H2 vs e2 S2 rs
  exact M.to S2 (rx.ext e2) rs (M.mo (fun _ _ z => LQ.ext (e1.trans e2) z) z)
def isL (x : D) (h : AH) : Prop := ∃ xs, lstOf h x = some xs
theorem isL_ty {K : PySem.W.Frag} {F : Hp} {h : AH} {H : Hp} {x : D} {v : V} (S : Sim K F h H) (r : Rep K F x v) (t : isL x h) : tyV K "list" v H := by
  obtain ⟨xs, e⟩ := t
  obtain ⟨a, vs, rfl, ha, _⟩ := S.lstOf r e
  exact .inl ⟨rfl, vs, .of ha⟩
def dAppend (x : D) (ys : List D) (h : AH) (Q : KD) : Prop := ∃ a xs y, x = .ref a ∧ ys = [y] ∧ h a = some (.lst xs) ∧ xs.length < sizeLine ∧ Q .non (up h a (.lst (xs ++ [y])))
theorem dAppend_ok {K : PySem.W.Frag} : MeD K "list" rAppend dAppend isL where
  ty := isL_ty
  mo := fun hq ⟨a, xs, y, e1, e2, e3, e4, q⟩ => ⟨a, xs, y, e1, e2, e3, e4, hq _ _ q⟩
  to := by
    rintro F h H x ys vx vs Q S rx rs ⟨a, xs, y, rfl, rfl, e, l, q⟩
    cases rx
    cases rs with
    | cons r rs =>
      cases rs
      obtain ⟨_, u, hu, us, rfl, ru⟩ := S.ob _ _ e
      exact ⟨a, us, _, rfl, rfl, hu, by rw [← ru.length]; exact l, q F _ _ (.refl F) (S.put e (o := .lst (xs ++ [y])) ⟨_, rfl, ru.append (.cons r .nil)⟩) .non⟩
theorem ae_append {apos cpos : Pos} (ho : AE X E o wo) (ha : AA X E [e] wl) (hbase : attributeBase o "append" X.env (eval o X.env) = eval o X.env := by rfl)
    (hfew : ((backTo cpos (starEach [e] X.env)).all (fun x => !x.1) && (backToKw cpos (keywordEach [] X.env)).all (fun x => x.1.isSome) && decide ([e].length + ([] : List Keyword).length + (if ([] : List Keyword).isEmpty then 0 else 1) < 30)) = true := by rfl)
    (hline : (apos.endLine == cpos.line) = true := by rfl) (hs : starEach [e] X.env = (false, eval e X.env) :: starEach [] X.env := by rfl) (hplain : (backTo cpos (starEach [] X.env)).any (·.1) = false := by rfl) :
    AE X E (.Call (.Attribute o "append" apos) [e] [] cpos) (wMethT isL dAppend wo wl) :=
  ae_bm dAppend_ok mt_append PySem.F.plainAttrs_list PySem.F.slot_list_append PySem.F.type_list_append ho ha hbase hfew hline hs hplain
end
/-! ### built-ins -/
def lenD (h : AH) (x : D) : Option Nat := match cur h x with
  | .tup xs => some xs.length
  | .tpl xs => some xs.length
  | .lst xs => some xs.length
  | .dK xs => some xs.length
  | .str s => some s.length
  | _ => none
def dLen (ds : List D) (h : AH) (Q : KD) : Prop := match ds with
  | [.str s] => s.length ≤ sizeLine ∧ Q (.int s.length) h
  | [x] => ∃ n, lenD h x = some n ∧ Q (.int (n : Nat)) h
  | _ => False
def dAbs (ds : List D) (h : AH) (Q : KD) : Prop := match ds with
  | [.int i] => Q (.int (if i < 0 then -i else i)) h
  | _ => False
def dInt (ds : List D) (h : AH) (Q : KD) : Prop := match ds with
  | [.int i] => Q (.int i) h
  | [.bl b] => Q (.int (if b then 1 else 0)) h
  | _ => False
def dMax2 (ds : List D) (h : AH) (Q : KD) : Prop := match ds with
  | [.int i, .int j] => Q (.int (if j > i then j else i)) h
  | _ => False
def dMin2 (ds : List D) (h : AH) (Q : KD) : Prop := match ds with
  | [.int i, .int j] => Q (.int (if j < i then j else i)) h
  | _ => False
def dListOf (m : Bool) (ds : List D) (h : AH) (Q : KD) : Prop := ∃ x xs, ds = [x] ∧ seqOf h x = some xs ∧ newL m xs h Q
def dTupOf (ds : List D) (h : AH) (Q : KD) : Prop := ∃ x xs, ds = [x] ∧ seqOf h x = some xs ∧ Q (.tup xs) h
def tyD (h : AH) (x : D) : Option String := match cur h x with
  | .non => some "NoneType"
  | .bl _ => some "bool"
  | .int _ => some "int"
  | .str _ => some "str"
  | .tup _ => some "tuple"
  | .tpl _ => some "tuple"
  | .lst _ => some "list"
  | .dK _ => some "dict"
  | .dT _ => some "dict"
  | _ => none
def dIsi (ds : List D) (h : AH) (Q : KD) : Prop := ∃ x t n b, ds = [x, .ty n] ∧ tyD h x = some t ∧ L2.kitB t n = some b ∧ Q (.bl b) h
end DL
namespace DL
open PySem PySem.Spec L2 C8
section
variable {K : PySem.W.Frag} {F : Hp} {h : AH} {H : Hp}
theorem Reps.one {d : D} {vs : List V} (r : Reps K F [d] vs) : ∃ v, vs = [v] ∧ Rep K F d v := by
  cases r with | cons r rs => cases rs; exact ⟨_, rfl, r⟩
theorem Reps.two {d e : D} {vs : List V} (r : Reps K F [d, e] vs) : ∃ v w, vs = [v, w] ∧ Rep K F d v ∧ Rep K F e w := by
  cases r with | cons r rs => cases rs with | cons q qs => cases qs; exact ⟨_, _, rfl, r, q⟩
end
section
variable {X : Cx}
theorem dAbs_ok : CaD X (.builtin "abs") dAbs where
  ex := ⟨_, call_abs, fun {F h H ds vs Q} S r q => by
    unfold dAbs at q; split at q
    · obtain ⟨v, rfl, r1⟩ := r.one; cases r1; exact ⟨_, rfl, q.at S (.int _)⟩
    · exact q.elim⟩
  mo := fun {ds h Q Q'} hq q => by
    unfold dAbs at *; split at q
    · exact hq _ _ q
    · exact q.elim
theorem dInt_ok : CaD X (.type "int") dInt where
  ex := ⟨_, call_int1, fun {F h H ds vs Q} S r q => by
    unfold dInt at q; split at q
    · obtain ⟨v, rfl, r1⟩ := r.one; cases r1; exact .inl ⟨_, rfl, q.at S (.int _)⟩
    · obtain ⟨v, rfl, r1⟩ := r.one; cases r1; exact .inr ⟨_, rfl, q.at S (.int _)⟩
    · exact q.elim⟩
  mo := fun {ds h Q Q'} hq q => by
    unfold dInt at *; split at q
    · exact hq _ _ q
    · exact hq _ _ q
    · exact q.elim
theorem dMax2_ok (hc : X.calm = true) : CaD X (.builtin "max") dMax2 where
  ex := ⟨_, call_max2 hc, fun {F h H ds vs Q} S r q => by
    unfold dMax2 at q; split at q
    · obtain ⟨v, w, rfl, r1, r2⟩ := r.two; cases r1; cases r2; exact ⟨_, _, rfl, q.at S (.int _)⟩
    · exact q.elim⟩
  mo := fun {ds h Q Q'} hq q => by
    unfold dMax2 at *; split at q
    · exact hq _ _ q
    · exact q.elim
theorem dMin2_ok (hc : X.calm = true) : CaD X (.builtin "min") dMin2 where
  ex := ⟨_, call_min2 hc, fun {F h H ds vs Q} S r q => by
    unfold dMin2 at q; split at q
    · obtain ⟨v, w, rfl, r1, r2⟩ := r.two; cases r1; cases r2; exact ⟨_, _, rfl, q.at S (.int _)⟩
    · exact q.elim⟩
  mo := fun {ds h Q Q'} hq q => by
    unfold dMin2 at *; split at q
    · exact hq _ _ q
    · exact q.elim
theorem dListOf_ok {m : Bool} : CaD X (.type "list") (dListOf m) where
  ex := ⟨_, call_list_of, fun {F h H ds vs Q} S r q => by
    obtain ⟨x, xs, rfl, e, q⟩ := q
    obtain ⟨v, rfl, r1⟩ := r.one
    obtain ⟨a, us, rfl, ha, rs⟩ := S.seqOf r1 e
    exact ⟨a, us, rfl, ha, S.newL rs q⟩⟩
  mo := fun {ds h Q Q'} hq ⟨x, ns, e, e2, q⟩ => ⟨x, ns, e, e2, newL_mo hq q⟩
theorem dTupOf_ok : CaD X (.type "tuple") dTupOf where
  ex := ⟨_, call_tuple_of, fun {F h H ds vs Q} S r q => by
    obtain ⟨x, xs, rfl, e, q⟩ := q
    obtain ⟨v, rfl, r1⟩ := r.one
    by_cases c : ∃ ys, x = .tup ys
    · obtain ⟨ys, rfl⟩ := c
      cases e
      cases r1 with
      | @tup a _ ws hs rs => exact ⟨a, ws, rfl, .inr ⟨sqt_of S.fz hs, q.at S (.tup hs rs)⟩⟩
    by_cases c2 : ∃ ys, x = .tpl ys
    · obtain ⟨ys, rfl⟩ := c2
      cases e
      cases r1 with
      | @tpl a _ _ ws hs _ rs => exact ⟨a, ws, rfl, .inr ⟨sqt_of S.fz (.inl (.inr ⟨_, hs⟩)), q.at S (.tup (.inl (.inr ⟨_, hs⟩)) rs)⟩⟩
    · have e' : lstOf h x = some xs := by
        cases x <;> first | exact e | exact absurd ⟨_, rfl⟩ c | exact absurd ⟨_, rfl⟩ c2
      obtain ⟨a, us, rfl, ha, rs⟩ := S.lstOf r1 e'
      exact ⟨a, us, rfl, .inl ⟨.of ha, S.newT rs q⟩⟩⟩
  mo := fun {ds h Q Q'} hq ⟨x, ns, e, e2, q⟩ => ⟨x, ns, e, e2, hq _ _ q⟩
def rLenD (K : PySem.W.Frag) : List V → Hp → VK → Prop := fun xs H Q => (∃ z, xs = [V.str z] ∧ z.length ≤ sizeLine ∧ Q (.int z.length) H) ∨ ((∃ p ys, xs = [V.ref p] ∧ (SqL K H p ys ∨ SqT K H p ys) ∧ Q (.int ys.length) H) ∨ ∃ a kvs, xs = [V.ref a] ∧ H a = some (.dK kvs) ∧ Q (.int kvs.length) H)
theorem RepK.length {K : PySem.W.Frag} {F : Hp} : ∀ {xs : List (Key × D)} {vs : List (Key × V)}, RepK K F xs vs → xs.length = vs.length
  | _, _, .nil => rfl
  | _, _, .cons _ t => by simp [RepK.length t]
theorem dLen_ok : CaD X (.builtin "len") dLen where
  ex := ⟨rLenD X.K, CallR.or call_len_str (CallR.or call_len_seq call_lenD), fun {F h H ds vs Q} S r q => by
    unfold dLen at q
    split at q
    · obtain ⟨v, rfl, r1⟩ := r.one; cases r1
      exact .inl ⟨_, rfl, q.1, q.2.at S (.int _)⟩
    · obtain ⟨n, e, q⟩ := q
      obtain ⟨v, rfl, r1⟩ := r.one
      cases r1 with
      | ref a =>
        cases ea : h a with
        | none => simp [lenD, cur, ea] at e
        | some o =>
          obtain ⟨_, u, hu, ro⟩ := S.ob _ _ ea
          cases o with
          | lst xs =>
            obtain ⟨us, rfl, rs⟩ := ro
            simp only [lenD, cur, ea, Option.some.injEq] at e
            subst e
            exact .inr (.inl ⟨a, us, rfl, .inl (.of hu), by rw [← rs.length]; exact q.at S (.int _)⟩)
          | dK xs =>
            obtain ⟨us, rfl, rs⟩ := ro
            simp only [lenD, cur, ea, Option.some.injEq] at e
            subst e
            exact .inr (.inr ⟨a, us, rfl, hu, by rw [← rs.length]; exact q.at S (.int _)⟩)
          | dT _ => simp [lenD, cur, ea] at e
          | ins _ _ => simp [lenD, cur, ea] at e
          | lck _ => simp [lenD, cur, ea] at e
          | lckK _ _ => simp [lenD, cur, ea] at e
          | tab _ => simp [lenD, cur, ea] at e
      | @tup a xs us hs rs =>
        simp only [lenD, cur, Option.some.injEq] at e
        subst e
        exact .inr (.inl ⟨a, us, rfl, .inr (sqt_of S.fz hs), by rw [← rs.length]; exact q.at S (.int _)⟩)
      | @tpl a ob xs us hs hd rs =>
        simp only [lenD, cur, Option.some.injEq] at e
        subst e
        exact .inr (.inl ⟨a, us, rfl, .inr (sqt_of S.fz (.inl (.inr ⟨_, hs⟩))), by rw [← rs.length]; exact q.at S (.int _)⟩)
      | @lst a xs us hs rs =>
        simp only [lenD, cur, Option.some.injEq] at e
        subst e
        exact .inr (.inl ⟨a, us, rfl, .inl (.of (S.fz _ _ hs)), by rw [← rs.length]; exact q.at S (.int _)⟩)
      | @dK a xs us hs rs =>
        simp only [lenD, cur, Option.some.injEq] at e
        subst e
        exact .inr (.inr ⟨a, us, rfl, S.fz _ _ hs, by rw [← rs.length]; exact q.at S (.int _)⟩)
      | dT _ _ => simp [lenD, cur] at e
      | str s => rename_i hn; exact absurd rfl (hn s)
      | non => simp [lenD, cur] at e
      | bl _ => simp [lenD, cur] at e
      | int _ => simp [lenD, cur] at e
      | ty _ => simp [lenD, cur] at e
      | lk _ _ => simp [lenD, cur] at e
      | ob _ _ => simp [lenD, cur] at e
      | xob0 _ => simp [lenD, cur] at e
      | lam _ _ => simp [lenD, cur] at e
      | xob _ _ _ => simp [lenD, cur] at e
    · exact q.elim⟩
  mo := fun {ds h Q Q'} hq q => by
    unfold dLen at *; split at q
    · exact ⟨q.1, hq _ _ q.2⟩
    · obtain ⟨n, e, q⟩ := q; exact ⟨n, e, hq _ _ q⟩
    · exact q.elim
/-- the type of a value -/
theorem Sim.tyD {K : PySem.W.Frag} {F : Hp} {h : AH} {H : Hp} {x : D} {v : V} {t : String} (S : Sim K F h H) (r : Rep K F x v) (e : DL.tyD h x = some t) : TyX K H v (.type t) := by
  cases r with
  | ref a =>
    cases ea : h a with
    | none => simp [DL.tyD, cur, ea] at e
    | some o =>
      obtain ⟨_, u, hu, ro⟩ := S.ob _ _ ea
      cases o with
      | lst xs => obtain ⟨us, rfl, rs⟩ := ro; simp only [DL.tyD, cur, ea, Option.some.injEq] at e; subst e; exact .base (.lst hu)
      | dK xs => obtain ⟨us, rfl, rs⟩ := ro; simp only [DL.tyD, cur, ea, Option.some.injEq] at e; subst e; exact .base (.dK hu)
      | dT xs => obtain ⟨us, rfl, rs⟩ := ro; simp only [DL.tyD, cur, ea, Option.some.injEq] at e; subst e; exact .base (.dT hu)
      | ins _ _ => simp [DL.tyD, cur, ea] at e
      | lck _ => simp [DL.tyD, cur, ea] at e
      | lckK _ _ => simp [DL.tyD, cur, ea] at e
      | tab _ => simp [DL.tyD, cur, ea] at e
  | non => simp only [DL.tyD, cur, Option.some.injEq] at e; subst e; exact .base .non
  | bl b => simp only [DL.tyD, cur, Option.some.injEq] at e; subst e; exact .base (.bl b)
  | int i => simp only [DL.tyD, cur, Option.some.injEq] at e; subst e; exact .base (.int i)
  | str s => simp only [DL.tyD, cur, Option.some.injEq] at e; subst e; exact .base (.str s)
  | ty n => simp [DL.tyD, cur] at e
  | lk _ _ => simp [DL.tyD, cur] at e
  | ob _ _ => simp [DL.tyD, cur] at e
  | xob0 _ => simp [DL.tyD, cur] at e
  | lam _ _ => simp [DL.tyD, cur] at e
  | xob _ _ _ => simp [DL.tyD, cur] at e
  | tup hs rs =>
    simp only [DL.tyD, cur, Option.some.injEq] at e; subst e
    rcases sqt_of S.fz hs with (q | ⟨o, q⟩) | ⟨o, its, n, q, c, _⟩
    · exact .base (.tup q)
    · exact .fTuple q
    · exact .kTuple q c
  | tpl hs hd rs => simp only [DL.tyD, cur, Option.some.injEq] at e; subst e; exact .fTuple (S.fz _ _ hs)
  | lst hs rs => simp only [DL.tyD, cur, Option.some.injEq] at e; subst e; exact .base (.lst (S.fz _ _ hs))
  | dK hs rs => simp only [DL.tyD, cur, Option.some.injEq] at e; subst e; exact .base (.dK (S.fz _ _ hs))
  | dT hs rs => simp only [DL.tyD, cur, Option.some.injEq] at e; subst e; exact .base (.dT (S.fz _ _ hs))
theorem dIsi_ok : CaD X (.builtin "isinstance") dIsi where
  ex := ⟨_, call_isi, fun {F h H ds vs Q} S r q => by
    obtain ⟨x, t, n, b, rfl, et, eb, q⟩ := q
    obtain ⟨v, w, rfl, r1, r2⟩ := r.two
    cases r2
    exact ⟨v, .ty n, .type t, .type n, b, rfl, .ty n, S.tyD r1 et, kit_ty eb, q.at S (.bl _)⟩⟩
  mo := fun {ds h Q Q'} hq ⟨x, t, n, b, e, e1, e2, q⟩ => ⟨x, t, n, b, e, e1, e2, hq _ _ q⟩
/-! ### repr -/
end
end DL
namespace DL
open PySem PySem.Spec L2 C8
/-! ### one more built-in runs around -/
/-! ### d.items() as a value, d with keys that are ints or texts -/
end DL
namespace DL
open PySem PySem.Spec L2 C8
/-! ### dicts with keys that are ints or texts -/
def keyD : D → Option Key
  | .int i => some (.inl i)
  | .str s => some (.inr s)
  | _ => none
def valD (kvs : List (Key × D)) (k : Key) : Option D := (kvs.find? fun kv => decide (kv.1 = k)).map (·.2)
def putD (kvs : List (Key × D)) (k : Key) (v : D) : List (Key × D) :=
  if (kvs.any fun kv => decide (kv.1 = k)) = true then kvs.map (fun kv => if kv.1 = k then (kv.1, v) else kv) else kvs ++ [(k, v)]
def dkOf (h : AH) : D → Option (List (Key × D))
  | .dK xs => some xs
  | .ref a => match h a with
    | some (.dK xs) => some xs
    | _ => none
  | _ => none
section
variable {K : PySem.W.Frag} {F : Hp} {h : AH} {H : Hp} {d : D} {v : V}
theorem RepK.val : ∀ {kvs : List (Key × D)} {vs : List (Key × V)}, RepK K F kvs vs → ∀ k : Key, (valD kvs k = none ∧ valV vs k = none) ∨ ∃ d v, valD kvs k = some d ∧ valV vs k = some v ∧ Rep K F d v
  | _, _, .nil, k => .inl ⟨rfl, rfl⟩
  | _, _, @RepK.cons _ _ k0 x u xs us r t, k => by
    by_cases c : k0 = k
    · subst c
      exact .inr ⟨x, u, by simp [valD], by simp [valV], r⟩
    · have e1 : valD ((k0, x) :: xs) k = valD xs k := by simp [valD, List.find?_cons, c]
      have e2 : valV ((k0, u) :: us) k = valV us k := by simp [valV, List.find?_cons, c]
      rw [e1, e2]
      exact RepK.val t k
theorem RepK.append : ∀ {xs ys : List (Key × D)} {vs ws : List (Key × V)}, RepK K F xs vs → RepK K F ys ws → RepK K F (xs ++ ys) (vs ++ ws)
  | _, _, _, _, .nil, s => s
  | _, _, _, _, .cons h t, s => .cons h (RepK.append t s)
theorem RepK.any : ∀ {kvs : List (Key × D)} {vs : List (Key × V)}, RepK K F kvs vs → ∀ k : Key, (kvs.any fun kv => decide (kv.1 = k)) = (vs.any fun kv => decide (kv.1 = k))
  | _, _, .nil, _ => rfl
  | _, _, .cons _ t, k => by simp only [List.any_cons]; rw [RepK.any t k]
theorem RepK.repl {k : Key} {x : D} {u : V} (r : Rep K F x u) : ∀ {kvs : List (Key × D)} {vs : List (Key × V)}, RepK K F kvs vs → RepK K F (kvs.map fun kv => if kv.1 = k then (kv.1, x) else kv) (vs.map fun kv => if kv.1 = k then (kv.1, u) else kv)
  | _, _, .nil => .nil
  | _, _, @RepK.cons _ _ k0 y w ys ws q t => by
    simp only [List.map_cons]
    by_cases c : k0 = k
    · rw [if_pos c, if_pos c]; exact .cons r (RepK.repl r t)
    · rw [if_neg c, if_neg c]; exact .cons q (RepK.repl r t)
theorem RepK.put {kvs : List (Key × D)} {vs : List (Key × V)} (t : RepK K F kvs vs) (k : Key) {x : D} {u : V} (r : Rep K F x u) : RepK K F (putD kvs k x) (putK vs k u) := by
  unfold putD putK
  rw [t.any k]
  split
  · exact RepK.repl r t
  · exact t.append (.cons r .nil)
end
section
variable {X : Cx} {E : XK} {k : Nat} {o i e f value : Expr} {wo wi we wf wv : WE} {pos cpos apos pos' p : Pos}
def wDnew : WE := fun _ h Q _ => ∀ p, h p = none → Q (.ref p) (up h p (.dK []))
/-- d.get(k, x) -/
def wGet2 (wo wi wx : WE) : WE := fun ρ h Q X => wo ρ h (fun x h1 => (dkOf h1 x).isSome = true ∧ wi ρ h1 (fun y h2 => wx ρ h2 (fun z h3 => ∃ kvs k, dkOf h3 x = some kvs ∧ keyD y = some k ∧ Q ((valD kvs k).getD z) h3) X) X) X
/-- d[k] -/
def wDGet (wo wi : WE) : WE := fun ρ h Q X => wo ρ h (fun x h1 => wi ρ h1 (fun y h2 => ∃ kvs k d, dkOf h2 x = some kvs ∧ keyD y = some k ∧ valD kvs k = some d ∧ Q d h2) X) X
/-- d[k] = v -/
def wDput (wo wi wv : WE) : WS := fun D ρ h => wv ρ h (fun z h1 => wo ρ h1 (fun x h2 => wi ρ h2 (fun y h3 => ∃ a kvs k, x = .ref a ∧ h3 a = some (.dK kvs) ∧ keyD y = some k ∧ kvs.length < sizeLine ∧ D.nx ρ (up h3 a (.dK (putD kvs k z)))) D.ex) D.ex) D.ex
/-! ### sorted(d.items()), ints to ints -/
def pairD (e : Int × Int) : D := .tup [.int e.1, .int e.2]
end
end DL
namespace PySem
set_option maxHeartbeats 1000000 in
theorem dl_meets_enum1 {v : Value} {o : Obj} {H : Heap → Prop} (B : Begins v o H) :
    Meets (Builtin.«enumerate.__new__» ⟨[.type "enumerate", v], []⟩) (fun _ R s => H s.heap ∧
      R (.ok (.ret (.ref (s.heap.push o).objs.size))) { s with heap := (s.heap.push o).push { cls := .type "enumerate", data := .fields #[.none, .bool false, .ref s.heap.objs.size, rawInt 0, .none, .none] } }) :=
  .of_wp fun prog w A R s h => by
    obtain ⟨hp, gg, dd, tk, os⟩ := s; obtain ⟨h1, h⟩ := h
    have se := sub_enumerate
    have go : ∀ {A' : Around} {E : Value → Shared → Prop} {Q : Value → Shared → Prop}, Q (.ref hp.objs.size) ⟨hp.push o, gg, dd, tk, os⟩ → wpAny (model prog w) A' (pyIter v) Q E ⟨hp, gg, dd, tk, os⟩ :=
      fun q => B.iter prog w _ _ ⟨hp, gg, dd, tk, os⟩ _ h1 q
    wp_walk using go
    refine wpAny_stack_any fun st => wpAny_pure ?_
    split
    · rename_i c _ _ _ _ _
      cases (c == Value.type "enumerate") <;> (wp_walk using go; exact ⟨_, rfl, h⟩)
    · wp_walk using go
      exact ⟨_, rfl, h⟩
section
variable {prog : Program} {w : World} {A : Around} {E : Value → Shared → Prop} {s : Shared}
theorem dl_call_enum {v : Value} {o : Obj} {H : Heap → Prop} {Q : Value → Shared → Prop} (B : Begins v o H) (h1 : H s.heap)
    (h : ∀ h', IsEnum h' (s.heap.objs.size + 1) s.heap.objs.size 0 .none → h'.get? s.heap.objs.size = some o → (∀ b o, s.heap.get? b = some o → h'.get? b = some o) → Q (.ref (s.heap.objs.size + 1)) { s with heap := h' }) :
    wpAny (model prog w) A (call (.type "enumerate") [v]) Q E s := by
  refine callType_new F.called_enumerate (by decide) (F.typeCall_enumerate_1 _) (F.newCall_enumerate_1 _) (fun obj => F.args_object_init_2 obj _) F.entry_enumerate_new (dl_meets_enum1 B) ⟨h1, ?_⟩
  have z : (s.heap.push o).objs.size = s.heap.objs.size + 1 := Heap.size_push ..
  have he := Heap.get?_push_size (s.heap.push o) (o := { cls := .type "enumerate", data := .fields #[.none, .bool false, .ref s.heap.objs.size, rawInt 0, .none, .none] }) rfl
  show _ ∧ _
  rw [z] at he ⊢
  exact ⟨⟨_, he, rfl⟩, h _ he (Heap.get?_push_of_some _ (Heap.get?_push_size _ B.free)) fun b o x => Heap.get?_push_of_some _ (Heap.get?_push_of_some _ x)⟩
end
end PySem
namespace DL
open PySem PySem.Spec L2 C8
/-! ### enumerate(tuple) -/
def Iet (K : PySem.W.Frag) (a : Addr) : It :=
  ⟨fun i H => ∃ (xs : List V) (x : V), SqT K H a xs ∧ xs[i]? = some x, fun i H v H' => ∃ T x, v = .ref T ∧ H T = none ∧ H' = upd H T (.tup [.int (i : Nat), x]) ∧ ∀ xs, SqT K H a xs → xs[i]? = some x, fun i H => ∃ xs : List V, SqT K H a xs ∧ xs.length = i⟩
theorem turn_et {P : Program} {w : World} {K : PySem.W.Frag} {elts : List Expr} {kk : Nat} {tpos : Pos} (a e it : Addr) :
    Turn P w K (.Tuple elts kk tpos) (Iet K a) [e, it] e (fun i h => (∃ old, IsEnum h e it ((i : Nat) : Int) old) ∧ h.IsTupleIter it a i ∧ e ≠ it ∧ e ≠ a ∧ a ≠ it) where
  mem := by simp
  obj := fun i h st b hb => by
    obtain ⟨⟨old, he⟩, ⟨o, ho, hc, hd⟩, _⟩ := st
    rcases (by simpa using hb : b = e ∨ b = it) with z | z <;> subst z
    · exact ⟨_, he, fun v q => nomatch q⟩
    · exact ⟨o, ho, fun v q => by rw [hd] at q; cases q⟩
  keep := fun i h h' st k => let ⟨⟨old, he⟩, hi, n⟩ := st; ⟨⟨old, k e (by simp) _ he⟩, hi.at fun o q => k it (by simp) o q, n⟩
  item := by
    intro X hP hw hK hc i pins s σ H E I hf st hg
    subst hP hw hK
    obtain ⟨⟨old, he⟩, hit, n1, n2, n3⟩ := st
    obtain ⟨xs, x, hq, hx⟩ := hg
    obtain ⟨its, rv, p, hz⟩ := I.tuple hq
    obtain ⟨u, hu, ru⟩ := rv.get hx
    have le : e < s.heap.objs.size := Heap.lt_size he
    have li : it < s.heap.objs.size := by obtain ⟨_, q, _⟩ := hit; exact Heap.lt_size q
    have pT : s.heap.IsTuple a its.toArray := p
    refine wpAny_pyNext_enum_itemD (D := Draws.tuple (A := X.A.in1) (show X.A.in1.handled = none from I.ok.hd hc) it a n3 its.toArray) he ⟨hit, pT⟩ (by obtain ⟨l, _⟩ := List.getElem?_eq_some_iff.mp hu; simpa using l) n1 (by simp [n1, n2]) fun u' h' tk hu' ho hs' hT hsz hk => ?_
    have eu : u' = u := by
      have : its[i]? = some u' := by simpa using hu'
      rw [hu] at this; exact (Option.some.inj this).symm
    subst eu
    refine ⟨_, rfl, wpAny_letOwnedTupleGo_enum (s := { s with heap := h', toks := tk + 1 }) ho fun h'' he' sb => ?_⟩
    have hT2 := (sb.2 _ (Nat.ne_of_gt le)).trans hT
    have new : ObjOk X.prog X.w (upd H s.heap.objs.size (.tup [.int (i : Nat), x])) h'' s.heap.objs.size (.tup [.int (i : Nat), x]) :=
      ⟨by show 2 ≤ sizeLine; decide, [.int i tk, u'], .cons ⟨_, rfl⟩ (.cons ru .nil), ⟨_, hT2, rfl, _, rfl⟩⟩
    have I1 : Inv X pins σ (upd H s.heap.objs.size (.tup [.int (i : Nat), x])) { s with heap := h'', toks := tk + 1 } :=
      I.turnedNew (ch := [e, it]) (fun b ob hb q => (sb.2 b (fun z => hb (by simp [z]))).trans (hk b ob (fun z => hb (by simp [z])) (fun z => hb (by simp [z])) q)) hf (Nat.le_refl _) new
    refine ⟨.ref s.heap.objs.size, _, I1, rfl, ⟨_, x, rfl, I.hok.fresh (Nat.le_refl _), rfl, fun ys hy => by rw [I.tuple_inj hy hq]; exact hx⟩, ⟨⟨u', ?_⟩, hs'.1.at fun o q => (sb.2 it (Ne.symm n1)).trans q, n1, n2, n3⟩, fun b hb => ?_⟩
    · rw [show ((i + 1 : Nat) : Int) = (i : Int) + 1 by omega]; exact he'
    · have hb' : b < s.heap.objs.size := by
        rcases (by simpa using hb : b = e ∨ b = it) with z | z <;> subst z <;> assumption
      rw [upd_ne (Nat.ne_of_lt hb')]
      exact (hf b hb).1
  done := by
    intro X hP hw hK hc i pins s σ H E I hf st hg
    subst hP hw hK
    obtain ⟨⟨old, he⟩, hit, n1, n2, n3⟩ := st
    obtain ⟨xs, hq, hx⟩ := hg
    obtain ⟨its, rv, p, hz⟩ := I.tuple hq
    obtain ⟨f0, f1, f2, f3, f4, f5⟩ := hf it (by simp)
    have pT : s.heap.IsTuple a its.toArray := p
    have hl : its.toArray.size = i := by have := rv.length; simp; omega
    exact wpAny_pyNext_enum_endD (Draws.tuple (A := X.A.in1) (show X.A.in1.handled = none from I.ok.hd hc) it a n3 its.toArray) he ⟨by rw [hl]; exact hit, pT⟩ fun h' eb => ⟨rfl, I.turned (t' := s.toks) (fun b o hb q => eb b o hb q) f0 f1 f3 f4 f5⟩
  self := fun A i s Q E st h => let ⟨⟨_, he⟩, _⟩ := st; wpAny_pyIter_enum he h
def vEnumT (K : PySem.W.Frag) (ta : TA) : TI := fun σ H R => ta σ H fun vs H1 => ∃ a xs, vs = [.ref a] ∧ SqT K H1 a xs ∧ R (Iet K a) H1
theorem pi_et {X : Cx} {e : Expr} {ta : TA} {p pos tpos : Pos} {elts : List Expr} {kk : Nat} (hg : Gl X "enumerate") (hm : X.mg "enumerate" = none) (ha : PA X [e] ta) (hs : starEach [e] X.env = [(false, eval e X.env)] := by rfl) :
    PI X (.Tuple elts kk tpos) (.Call (.Name "enumerate" p) [e] [] pos) (vEnumT X.K ta) := by
  refine ⟨fun pins s σ H R I h => ?_⟩
  refine PyProof.Rows.Call_ (ld_blt I hg hm PyProof.Rows.boot_enumerate (PyProof.Rows.callWith_type1 (thn (ha.run pos pins s σ H _ I h) fun us s1 ⟨vs, H1, I1, r1, q1⟩ => ?_) hs rfl))
  obtain ⟨a, xs, rfl, hq, q⟩ := q1
  cases r1 with
  | cons r rr =>
    cases rr
    cases r
    obtain ⟨its, rv, pp, hz⟩ := I1.tuple hq
    have pT : s1.heap.IsTuple a its.toArray := pp
    have la : a < s1.heap.objs.size := by obtain ⟨_, x, _⟩ := pT; exact Heap.lt_size x
    refine dl_call_enum (begins_tuple a its.toArray) pT fun h' he hi hk => wpAny_pyIter_enum he ?_
    refine ⟨s1.heap.objs.size + 1, [s1.heap.objs.size + 1, s1.heap.objs.size], _, _, H1, rfl, I1.kept (t' := s1.toks) hk, turn_et a (s1.heap.objs.size + 1) s1.heap.objs.size, ⟨⟨.none, he⟩, ⟨_, hi, rfl, rfl⟩, Nat.succ_ne_self _, Nat.ne_of_gt (Nat.lt_succ_of_lt la), Nat.ne_of_lt la⟩, fun b hb => ?_, q⟩
    have hle : s1.heap.objs.size ≤ b := by
      rcases (by simpa using hb : b = s1.heap.objs.size + 1 ∨ b = s1.heap.objs.size) with z | z
      · rw [z]; exact Nat.le_succ _
      · rw [z]; exact Nat.le_refl _
    exact I1.fpOk hle (I1.hok.fresh hle)
/-! ### their readings as data -/
def numD (xs : List D) : List D := (List.range xs.length).zipWith (fun i x => .tup [.int (i : Nat), x]) xs
theorem numD_len {xs : List D} : (numD xs).length = xs.length := by simp [numD]
theorem numD_get {xs : List D} {i : Nat} {d : D} (h : (numD xs)[i]? = some d) : ∃ x, xs[i]? = some x ∧ d = .tup [.int (i : Nat), x] := by
  unfold numD at h
  rw [List.getElem?_zipWith] at h
  by_cases c : i < xs.length
  · rw [List.getElem?_range c, List.getElem?_eq_getElem c] at h
    cases h
    exact ⟨_, List.getElem?_eq_getElem c, rfl⟩
  · rw [List.getElem?_eq_none (l := List.range _) (by simpa using c)] at h
    simp at h
section
variable {K : PySem.W.Frag} {F : Hp} {a : Addr} {xs : List D} {vs : List V}
theorem ItD.numT (q : SqT K F a vs) (r : Reps K F xs vs) : ItD K F (Iet K a) (numD xs) (fun _ => True) where
  go := fun {i F' h0 H} e S s l => by
    rw [numD_len] at l
    obtain ⟨v, hv, _⟩ := r.get (List.getElem?_eq_getElem l)
    exact ⟨vs, v, sqt_of S.fz (e.sqt q), hv⟩
  stop := fun {i F' h0 H} e S s l =>
    by exact ⟨vs, sqt_of S.fz (e.sqt q), by rw [← r.length, ← numD_len]; exact l⟩
  yld := fun {i F' h0 H x H' d} e S s y hd => by
    obtain ⟨T, v, rfl, hT, rfl, y⟩ := y
    obtain ⟨dx, hx, rfl⟩ := numD_get hd
    obtain ⟨v', hv, rv⟩ := r.get hx
    have ey := y vs (sqt_of S.fz (e.sqt q))
    rw [hv] at ey
    obtain rfl := Option.some.inj ey
    have x1 := ext_upd (o := HO.tup [V.int (i : Nat), v']) (S.free hT).1
    exact ⟨_, x1, S.newF hT _, .tup (.of upd_same) (.cons (.int _) (.cons ((rv.ext e).ext x1) .nil))⟩
def stepD (lo c : Int) (n : Nat) : List D := (List.range n).map fun i => D.int (lo + (i : Nat) * c)
end
section
variable {X : Cx} {E : XK} {tg e : Expr} {wl : WA} {p pos tpos : Pos} {elts : List Expr} {kk : Nat}
/-- enumerate of a tuple, or of a list as it stands -/
def iNum (wl : WA) : WI := fun ρ h R X => wl ρ h (fun ds h1 => match ds with
  | [.tup xs] => R (numD xs) (fun _ => True) h1
  | _ => False) X
theorem ai_num (hm : X.mg "enumerate" = none) (ha : AA X E [e] wl) (hg : Gl X "enumerate" := by rfl) (hs : starEach [e] X.env = [(false, eval e X.env)] := by rfl) : AI X E (.Tuple elts kk tpos) (.Call (.Name "enumerate" p) [e] [] pos) (iNum wl) := by
  refine ⟨PI.imp (pi_et hg hm ha.run hs) fun σ H R ⟨F, ρ, g, S, Rr, q⟩ => ?_, fun ρ h Q Q' X X' hq hx q => ha.mo _ _ _ _ _ _ (fun ds h1 z => ?_) hx q⟩
  · refine ⟨F, ρ, g, S, Rr, ha.mo _ _ _ _ _ _ (fun ds h1 z => ?_) (fun _ _ z => z) q⟩
    intro F1 H1 vs e1 S1 rs
    split at z
    · cases rs with
      | cons r rs =>
        cases rs
        cases r with
        | @tup a xs us hf rs => exact ⟨a, us, rfl, sqt_of S1.fz hf, z F1 H1 _ e1 S1 (ItD.numT hf rs)⟩
    · exact z.elim
  · split at z
    · exact hq _ _ _ z
    · exact z.elim
def iRng3 (wl : WA) : WI := fun ρ h R X => wl ρ h (fun ds h1 => match ds with
  | [.int i, .int j, .int c] => ∃ n, RgC i j c n ∧ R (stepD i c n) (fun _ => True) h1
  | _ => False) X
end
end DL
namespace DL
open PySem PySem.Spec L2 C8
/-! ### x in (a, b): flat data -/
def flatD : D → Bool
  | .non => true
  | .bl _ => true
  | .int _ => true
  | .str _ => true
  | _ => false
def eqFD : D → D → Bool
  | .non, .non => true
  | .bl a, .bl b => a == b
  | .bl a, .int b => (if a then 1 else 0) == b
  | .int a, .bl b => a == (if b then 1 else 0)
  | .int a, .int b => a == b
  | .str a, .str b => a == b
  | _, _ => false
def inD (x : D) (ys : List D) : Bool := ys.any fun y => eqFD y x
def dIn (neg : Bool) (x y : D) (h : AH) (Q : KD) : Prop := ∃ ys, seqOf h y = some ys ∧ flatD x = true ∧ ys.all flatD = true ∧ Q (.bl (if neg then !inD x ys else inD x ys)) h
theorem flatV_of {K : PySem.W.Frag} {F : Hp} {d : D} {v : V} (r : Rep K F d v) (f : flatD d = true) : flatV v = true := by
  cases r <;> first | rfl | cases f
theorem eqV_of {K : PySem.W.Frag} {F : Hp} {d e : D} {v w : V} (r : Rep K F d v) (q : Rep K F e w) (f : flatD d = true) (g : flatD e = true) : eqV v w = eqFD d e := by
  cases r <;> first | (exact absurd f Bool.false_ne_true) | (cases q <;> first | rfl | (exact absurd g Bool.false_ne_true))
theorem inV_of {K : PySem.W.Frag} {F : Hp} {d : D} {v : V} (r : Rep K F d v) (f : flatD d = true) : ∀ {xs : List D} {vs : List V}, Reps K F xs vs → xs.all flatD = true → vs.all flatV = true ∧ inV v vs = inD d xs
  | _, _, .nil, _ => ⟨rfl, rfl⟩
  | _, _, .cons q t, g => by
    rw [List.all_cons, Bool.and_eq_true] at g
    obtain ⟨h1, h2⟩ := inV_of r f t g.2
    refine ⟨by rw [List.all_cons, flatV_of q g.1, h1]; rfl, ?_⟩
    show (List.any _ _) = (List.any _ _)
    rw [List.any_cons, List.any_cons, eqV_of q r g.1 f]
    exact congrArg _ h2
theorem dIn_ok {K : PySem.W.Frag} {neg : Bool} : OpD K (rIn K neg) (dIn neg) where
  to := by
    intro F h H x y vx vy Q S rx ry q
    obtain ⟨ys, e, f, g, q⟩ := q
    obtain ⟨a, vs, rfl, hq, rs⟩ := S.seqOf ry e
    obtain ⟨h1, h2⟩ := inV_of rx f rs g
    exact ⟨a, vs, rfl, hq, flatV_of rx f, h1, by rw [h2]; exact q.at S (.bl _)⟩
  mo := fun hq ⟨ys, e, f, g, q⟩ => ⟨ys, e, f, g, hq _ _ q⟩
section
variable {X : Cx} {E : XK} {k : Nat} {a b e : Expr} {es : List Expr} {wa wb wx : WE} {wl wk : WA} {pos kpos : Pos} {kws : List Keyword} {nm : Option Str}
theorem ae_in (ha : AE X E a wa) (hb : AE X E b wb) (hm : behindInMarks .In b = false := by rfl) : AE X E (.Compare a [.In] [b] pos) (wOp (dIn false) wa wb) := ae_cmp dIn_ok op_in_seq ha hb hm
theorem ae_notin (ha : AE X E a wa) (hb : AE X E b wb) (hm : behindInMarks .NotIn b = false := by rfl) : AE X E (.Compare a [.NotIn] [b] pos) (wOp (dIn true) wa wb) := ae_cmp dIn_ok op_notIn_seq ha hb hm
theorem at_in (ha : AE X E a wa) (hb : AE X E b wb) (hm : behindInMarks .In b = false := by rfl) : AT X E (.Compare a [.In] [b] pos) (wTest (wOp (dIn false) wa wb)) := at_cmp dIn_ok op_in_seq ha hb hm
/-! ### keywords -/
structure AK (X : Cx) (E : XK) (kws : List Keyword) (w : WA) : Prop where
  run : PK X kws (tA X.K E w)
  mo : MoA w
theorem PK.imp {t t' : TA} (p : PK X kws t) (h : ∀ σ H Q, t' σ H Q → t σ H Q) : PK X kws t' := ⟨fun pos pins s σ H Q I q => p.run pos pins s σ H Q I (h _ _ _ q)⟩
theorem ak_nil : AK X E [] wNil := ⟨PK.imp pk_nil fun σ H Q ⟨F, ρ, g, S, R, q⟩ => q F H [] (.refl F) S .nil, fun ρ h Q Q' X X' hq hx q => hq _ _ q⟩
theorem ak_cons (ha : AE X E e wx) (hr : AK X E kws wk) : AK X E (⟨nm, e, kpos⟩ :: kws) (wCons wx wk) := by
  refine ⟨PK.imp (pk_cons ha.run hr.run) fun σ H Q ⟨F, ρ, g, S, R, q⟩ => ?_, fun ρ h Q Q' X X' hq hx q => ha.mo _ _ _ _ _ _ (fun x h1 z => hr.mo _ _ _ _ _ _ (fun xs h2 z => hq _ _ z) hx z) hx q⟩
  refine ⟨F, ρ, g, S, R, ha.mo _ _ _ _ _ _ (fun x h1 z => ?_) (fun _ _ z => z) q⟩
  intro F1 H1 v e1 S1 r
  refine ⟨F1, ρ, h1, S1, R.ext e1, hr.mo _ _ _ _ _ _ (fun xs h2 z => ?_) (fun _ _ z => LX.ext e1 z) z⟩
  intro F2 H2 vs e2 S2 rs
  exact z F2 H2 _ (e1.trans e2) S2 (.cons (r.ext e2) rs)
end
/-- the parameters' values, picked from the positional ones and the keywords' -/
def pickD (ix : List Nat) (ds zs : List D) : List D := ix.map fun i => ((ds ++ zs)[i]?).getD .non
theorem Bnd.pick {K : PySem.W.Frag} {fd : FuncData} {ps : List Str} {n : Nat} {ks : List Str} (ix : List Nat) (hi : ∀ i ∈ ix, i < n + ks.length)
    (h : ∀ us ws : List Value, us.length = n → ws.length = ks.length → bindArgs fd ⟨us, ks.zip ws⟩ = pure (ps.zip (ix.map fun i => ((us ++ ws)[i]?).getD .none))) : Bnd K fd ps n ks (pickD ix) := by
  refine ⟨fun s F ds zs vs ys us ws X l1 l2 r1 r2 r3 r4 => ⟨ix.map fun i => ((vs ++ ys)[i]?).getD .non, ix.map fun i => ((us ++ ws)[i]?).getD .none, ?_, ?_, .of_eq (h us ws (by rw [← r2.length, ← r1.length]; exact l1) (by rw [← r4.length, ← r3.length]; exact l2))⟩⟩
  · have r := r1.append r3
    have l : (ds ++ zs).length = n + ks.length := by simp [l1, l2]
    clear h
    unfold pickD
    induction ix with
    | nil => exact .nil
    | cons i ix ih =>
      have li : i < (ds ++ zs).length := by rw [l]; exact hi i (List.mem_cons_self ..)
      obtain ⟨v, hv, rv⟩ := r.get (List.getElem?_eq_getElem li)
      refine .cons ?_ (ih fun j hj => hi j (List.mem_cons_of_mem _ hj))
      show _
      simp only [hv, List.getElem?_eq_getElem li]
      exact rv
  · have r := r2.append r4
    have l : (vs ++ ys).length = n + ks.length := by simp [← r1.length, ← r3.length, l1, l2]
    clear h
    induction ix with
    | nil => exact .nil
    | cons i ix ih =>
      have li : i < (vs ++ ys).length := by rw [l]; exact hi i (List.mem_cons_self ..)
      obtain ⟨v, hv, rv⟩ := r.get (List.getElem?_eq_getElem li)
      refine .cons ?_ (ih fun j hj => hi j (List.mem_cons_of_mem _ hj))
      show _
      simp only [hv, List.getElem?_eq_getElem li]
      exact rv
end DL
namespace DL
open PySem PySem.Spec L2 C8 PyProof.Rows
/-! ### the law is called -/
section
variable {P : Program} {w : World} {K : PySem.W.Frag} {mg bm : Str → Option Value} {k : Nat} {fa q : Addr} {fd : FuncData} {x : Str} {S : FSpec} {t : Shared} {us : List Value} {js : List Int}
/-- what is tracked at the start: the script at most -/
structure Beg (K : PySem.W.Frag) (P : Program) (w : World) (H : Hp) (hp : Heap) (q : Addr) (js : List Int) : Prop where
  sq : SqL K H q (js.map V.int)
  ok : HOk P w H hp
  at_ : ∀ b, H b ≠ none → b = q
  out : H q ≠ none → K.lookup q = none
  fz : ∀ b, H b = none ∨ ∃ ob ys, H b = some (.frz ob (.lst ys))
theorem beg_of (KX : K.In t.heap) (hq : t.heap.get? q = some { cls := .type "list", data := .seq us.toArray }) (ia : IntsAre us js) (lj : js.length ≤ sizeLine) : ∃ H, Beg K P w H t.heap q js := by
  have rv := vals_ints ia
  have el := ia.length
  cases kq : K.lookup q with
  | some ob =>
    have e := (KX q ob kq).symm.trans hq
    obtain rfl := Option.some.inj e
    refine ⟨fun _ => none, .inr ⟨_, _, _, kq, rfl, rfl, rfl, ?_, by simpa using rv⟩, fun b u z => ?_, fun b z => absurd rfl z, fun z => absurd rfl z, fun b => .inl rfl⟩
    · rw [List.size_toArray, el]; exact lj
    · exact absurd (show (none : Option HO) = some u from z) (by simp)
  | none =>
    have tr : ∀ b : Addr, (if b = q then some (HO.frz { cls := .type "list", data := .seq us.toArray } (.lst (js.map V.int))) else none : Option HO) ≠ none → b = q := fun b z => by
      by_cases c : b = q
      · exact c
      · exact absurd (if_neg c) z
    refine ⟨fun b => if b = q then some (.frz { cls := .type "list", data := .seq us.toArray } (.lst (js.map V.int))) else none, .inl (.inr ⟨_, if_pos rfl⟩), fun b u z => ?_, tr, fun _ => kq, fun b => ?_⟩
    · have c : b = q := tr b (by intro n; exact absurd (n.symm.trans z) (by simp))
      subst c
      obtain rfl := Option.some.inj ((if_pos rfl).symm.trans z)
      exact ⟨hq, by rw [List.length_map]; exact lj, us, _, rv, hq⟩
    · by_cases c : b = q
      · exact .inr ⟨_, _, if_pos c⟩
      · exact .inl (if_neg c)
end
end DL
namespace Hx
open PySem PySem.Spec PyProof.Rows L2 DL
abbrev Fr := PySem.W.Frag
/-! ### what stands where, by names -/
/-- the object that a slot holds -/
def rf (v : Option (Option Value)) : Addr := match v with
  | some (some (.ref a)) => a
  | _ => 0
def tk (v : Option (Option Value)) : Tok := match v with
  | some (some (.int _ t)) => t
  | some (some (.str _ t)) => t
  | _ => 0
/-- the module's name, a class's name -/
def gl (K : Fr) (x : Str) : Addr := rf (PySem.W.nsIn K mainGlobals x)
def me (K : Fr) (C : Addr) (m : Str) : Addr := rf (PySem.W.findIn K (.ref C) m)
def cm (K : Fr) (C : Addr) (m : Str) : Addr := match PySem.W.findCls K (.ref C) (.type "type") m with
  | some (.get _ (.ref p) _ _) => p
  | _ => 0
def rh (K : Fr) (p : Addr) (T : String) : Addr := match PySem.W.recIn K p T with
  | some (.ref f :: _) => f
  | _ => 0
def rt (K : Fr) (p : Addr) (T : String) : List Value := match PySem.W.recIn K p T with
  | some (_ :: r) => r
  | _ => []
def clsOk (K : Fr) (C p : Addr) (m : Str) : Bool := match PySem.W.findCls K (.ref C) (.type "type") m with
  | some (.get g a x c) => decide (g = .builtin "classmethod.__get__") && (decide (a = .ref p) && (decide (x = .none) && decide (c = .ref C)))
  | _ => false
theorem cls_at {K : Fr} {C p : Addr} {m : Str} (h : clsOk K C p m = true) : PySem.W.findCls K (.ref C) (.type "type") m = some (.get (.builtin "classmethod.__get__") (.ref p) .none (.ref C)) := by
  unfold clsOk at h
  split at h
  · rename_i e
    simp only [Bool.and_eq_true, decide_eq_true_eq] at h
    obtain ⟨rfl, rfl, rfl, rfl⟩ := h
    exact e
  · cases h
/-! a function's parts -/
def fd? (K : Fr) (a : Addr) : Option FuncData := match K.lookup a with
  | some ⟨_, _, .func fd, _⟩ => some fd
  | _ => none
def oc (K : Fr) (a : Addr) : Value := match K.lookup a with
  | some o => o.cls
  | none => .none
def od (K : Fr) (a : Addr) : Option Addr := match K.lookup a with
  | some o => o.dict
  | none => none
def sl (K : Fr) (a : Addr) : Array (Option Value) := match K.lookup a with
  | some o => o.slots
  | none => #[]
def fv (p : FuncData → Value) (K : Fr) (a : Addr) : Value := match fd? K a with
  | some fd => p fd
  | none => .none
def kv (K : Fr) (a : Addr) : Value := fv (·.kwdefaults) K a
abbrev FnU := Option (Str × Str × Arguments × FuncBody × Scope × Addr × List (Str × Addr) × Value × Addr)
def fnU (df : Bool) (K : Fr) (a : Addr) : FnU := match fd? K a with
  | some fd => some (fd.name, fd.qualname, fd.params, fd.body, fd.scope, fd.globals, fd.closure, if df then .none else fd.defaults, fd.builtins)
  | none => none
/-- one def: where it stands, its name, qualified name, parameters, body, scope -/
structure FnX where
  at_ : Fr → Addr
  name : Str
  qual : Str
  st : Stmt
  df : Bool
def FnX.val (d : FnX) : FnU := some (d.name, d.qual, defArgs d.st, .stmts (defBody d.st), defScope d.st, mainGlobals, [], .none, builtinsNs)
theorem fn_at {K : Fr} {a : Addr} {x q : Str} {st : Stmt} (e : fnU false K a = some (x, q, defArgs st, .stmts (defBody st), defScope st, mainGlobals, [], .none, builtinsNs)) :
    K.lookup a = some ⟨oc K a, od K a, .func (PySem.W.fnOf x q (defArgs st) (defBody st) (defScope st) .none (kv K a) (fv (·.doc) K a) (fv (·.pyModule) K a) (match fd? K a with | some fd => fd.annotations | none => none) (fv (·.code) K a) (fv (·.closureTuple) K a)), sl K a⟩ := by
  unfold oc od sl kv fv
  cases l : K.lookup a with
  | none => unfold fnU fd? at e; rw [l] at e; cases e
  | some o =>
    obtain ⟨c, d, dt, sls⟩ := o
    cases dt with
    | func fd =>
      have ef : fd? K a = some fd := by unfold fd?; rw [l]
      unfold fnU at e
      rw [ef] at e ⊢
      obtain ⟨n1, n2, n3, n4, n5, n6, n7, n8, n9, n10, n11, n12, n13, n14, n15⟩ := fd
      simp only [Option.some.injEq, Prod.mk.injEq] at e
      obtain ⟨h1, h2, h3, h4, h5, h6, h7, h8, h9⟩ := e
      replace h8 : _ = Value.none := h8
      simp only [Bool.false_eq_true, if_false] at h8
      subst h1 h2 h3 h4 h5 h6 h7 h8 h9
      rfl
    | _ => unfold fnU fd? at e; rw [l] at e; cases e
def an (K : Fr) (a : Addr) : Option Addr := match fd? K a with
  | some fd => fd.annotations
  | none => none
/-! ### the Hook -/
abbrev AlX : Type := Bool × List FnU
def obX (ts : List (List (Fr → Bool))) (fn : List FnX) (K : Fr) : AlX := (ts.all fun l => l.all fun t => t K, fn.map fun d => fnU d.df K (d.at_ K))
def vaX (fn : List FnX) : AlX := (true, fn.map FnX.val)
def SaX (ts : List (List (Fr → Bool))) (fn : List FnX) (K : Fr) : Prop := obX ts fn K = vaX fn
/-- all objects, the module's names first, the newest next -/
def allA (no : List Addr) (g : Addr → Option Obj) : Nat → List Addr
  | 0 => []
  | n + 1 => match g n with
    | some ⟨.none, _, .fields _, _⟩ => allA no g n
    | some _ => n :: allA no g n
    | none => allA no g n
def frX (N : Nat) (no : List Addr) (g : Addr → Option Obj) : Fr := He.frG g (mainGlobals :: allA no g N)
def hookX (N : Nat) (no : List Addr) (ts : List (List (Fr → Bool))) (fn : List FnX) : PySem.W.Hook where
  α := AlX
  obs := fun s => obX ts fn (frX N no s.heap.get?)
  val := fun _ => vaX fn
  says := fun _ h => ∃ K : Fr, K.In h ∧ SaX ts fn K
  of := fun _ _ e => ⟨_, He.frG_in, e⟩
  keeps := fun _ _ _ ⟨K, hK, c⟩ k => ⟨K, PySem.W.Frag.In.keeps hK k, c⟩
def obT (N : Nat) (no : List Addr) (ts : List (List (Fr → Bool))) (fn : List FnX) (s : PySem.W.SharedT) : AlX := obX ts fn (frX N no (HandSHeadRun.getT s))
theorem obT_eq {N : Nat} {no : List Addr} {ts : List (List (Fr → Bool))} {fn : List FnX} (s : PySem.W.SharedT) : obT N no ts fn s = (hookX N no ts fn).obs s.abs := by
  have e : HandSHeadRun.getT s = s.abs.heap.get? := funext (HandSHeadRun.getT_eq s)
  unfold obT
  rw [e] <;> rfl
section
variable {ts : List (List (Fr → Bool))} {fn : List FnX} {K : Fr}
theorem SaX.t (c : SaX ts fn K) (i j : Nat) {l : List (Fr → Bool)} {f : Fr → Bool} (h : ts[i]? = some l) (h2 : l[j]? = some f) : f K = true := by
  have c1 : (ts.all fun l => l.all fun t => t K) = true := congrArg (fun z : AlX => z.1) c
  exact List.all_eq_true.mp (List.all_eq_true.mp c1 l (List.mem_of_getElem? h)) f (List.mem_of_getElem? h2)
theorem SaX.f (c : SaX ts fn K) (i : Nat) {d : FnX} (h : fn[i]? = some d) (hd : d.df = false := by rfl) :
    K.lookup (d.at_ K) = some ⟨oc K (d.at_ K), od K (d.at_ K), .func (PySem.W.fnOf d.name d.qual (defArgs d.st) (defBody d.st) (defScope d.st) .none (kv K (d.at_ K)) (fv (·.doc) K (d.at_ K)) (fv (·.pyModule) K (d.at_ K)) (an K (d.at_ K)) (fv (·.code) K (d.at_ K)) (fv (·.closureTuple) K (d.at_ K))), sl K (d.at_ K)⟩ := by
  have e : fn.map (fun d => fnU d.df K (d.at_ K)) = fn.map FnX.val := congrArg (fun z : AlX => z.2) c
  have e2 : (fn.map fun d => fnU d.df K (d.at_ K))[i]? = (fn.map FnX.val)[i]? := by rw [e]
  rw [List.getElem?_map, List.getElem?_map, h] at e2
  have e3 := Option.some.inj e2
  dsimp only at e3
  rw [hd] at e3
  exact fn_at e3
end
def its (K : Fr) (a : Addr) : Array Value := match K.lookup a with
  | some ⟨_, _, .seq its _, _⟩ => its
  | _ => #[]
def cap (K : Fr) (a : Addr) : Nat := match K.lookup a with
  | some ⟨_, _, .seq _ n, _⟩ => n
  | _ => 0
def seqOk (K : Fr) (a : Addr) (T : String) : Bool := match K.lookup a with
  | some ⟨.type c, _, .seq _ _, _⟩ => decide (c = T)
  | _ => false
theorem seq_at {K : Fr} {a : Addr} {T : String} (h : seqOk K a T = true) : K.lookup a = some ⟨.type T, od K a, .seq (its K a) (cap K a), sl K a⟩ := by
  unfold seqOk at h
  unfold od its cap sl
  cases l : K.lookup a with
  | none => rw [l] at h; cases h
  | some o =>
    rw [l] at h
    obtain ⟨c, d, dt, sls⟩ := o
    cases c with
    | type c =>
      cases dt with
      | seq its n =>
        obtain rfl := of_decide_eq_true h
        rfl
      | _ => cases h
    | _ => cases h
/-! classes of errors -/
def cdOf (K : Fr) (a : Addr) : ClassData := match K.lookup a with
  | some ⟨_, _, .cls cd, _⟩ => cd
  | _ => default
def sk (K : Fr) (a : Addr) (i : Nat) : Option Value := ((sl K a).toList[i]?).getD none
def s4 (l : List (Option Value)) (n : String) : Bool := match l with
  | [_, _, _, _, some (.builtin m), _] => decide (m = n)
  | _ => false
theorem s4_at {l : List (Option Value)} {n : String} (h : s4 l n = true) : ∃ a b c d e, l = [a, b, c, d, some (.builtin n), e] := by
  unfold s4 at h
  split at h
  · obtain rfl := of_decide_eq_true h
    exact ⟨_, _, _, _, _, rfl⟩
  · cases h
def xcOk (K : Fr) (C : Addr) (n : String) : Bool := match K.lookup C with
  | some ⟨.type t, _, .cls cd, ss⟩ => decide (t = "type") && ((match cd.mro with
    | .ref c :: _ => decide (c = C)
    | _ => false) && (cd.hasDict && (!cd.hasDel && s4 ss.toList n)))
  | _ => false
theorem xc_at {K : Fr} {C : Addr} {n : String} (h : xcOk K C n = true) : K.lookup C = some (excClassObj (cdOf K C).name (cdOf K C).qualname C (cdOf K C).ns (cdOf K C).bases (cdOf K C).mro.tail true (cdOf K C).slotNames (cdOf K C).subclasses (cdOf K C).abstract (cdOf K C).collection (od K C) (sk K C 0) (sk K C 1) (sk K C 2) (sk K C 3) (sk K C 5) n) := by
  unfold xcOk at h
  unfold cdOf sk od sl
  cases l : K.lookup C with
  | none => rw [l] at h; cases h
  | some o =>
    rw [l] at h
    obtain ⟨c, d, dt, ss⟩ := o
    cases c with
    | type t =>
      cases dt with
      | cls cd =>
        obtain ⟨n1, n2, n3, n4, n5, n6, n7, n8, n9, n10, n11⟩ := cd
        simp only [Bool.and_eq_true, decide_eq_true_eq] at h
        obtain ⟨rfl, h2, h3, h4, h5⟩ := h
        cases n3 with
        | nil => cases h2
        | cons v r =>
          cases v with
          | ref c =>
            obtain rfl := of_decide_eq_true h2
            have h3 : n6 = true := h3
            have h4 : (!n11) = true := h4
            obtain ⟨ss⟩ := ss
            obtain ⟨a, b, c2, d2, e, h6⟩ := s4_at h5
            have h6 : ss = _ := h6
            subst h6
            cases n11 with
            | true => cases h4
            | false => subst h3; rfl
          | _ => cases h2
      | _ => cases h
    | _ => cases h
/-! code objects with tables -/
def cA (K : Fr) (a : Addr) : Addr := match fv (·.code) K a with
  | .ref c => c
  | _ => 0
theorem fn_c {K : Fr} {a d : Addr} {x q : Str} {st : Stmt} {k p1 p2 p5 : Value} {p3 : Option Addr} {c : Value} {o : Option Addr} {z : Array (Option Value)} (h : K.lookup a = some ⟨c, o, .func (PySem.W.fnOf x q (defArgs st) (defBody st) (defScope st) .none k p1 p2 p3 (fv (·.code) K a) p5), z⟩) (e : fv (·.code) K a = .ref d) :
    K.lookup a = some ⟨c, o, .func (PySem.W.fnOf x q (defArgs st) (defBody st) (defScope st) .none k p1 p2 p3 (.ref d) p5), z⟩ := by
  rw [← e]; exact h
def fl (K : Fr) (a : Addr) : Array Value := match K.lookup a with
  | some ⟨_, _, .fields vs, _⟩ => vs
  | _ => #[]
def flOk (K : Fr) (a : Addr) : Bool := match K.lookup a with
  | some ⟨_, _, .fields _, _⟩ => true
  | _ => false
theorem fl_at {K : Fr} {a : Addr} (h : flOk K a = true) : K.lookup a = some ⟨oc K a, od K a, .fields (fl K a), sl K a⟩ := by
  unfold flOk at h
  unfold oc od fl sl
  cases l : K.lookup a with
  | none => rw [l] at h; cases h
  | some o =>
    rw [l] at h
    obtain ⟨c, d, dt, ss⟩ := o
    cases dt with
    | fields vs => rfl
    | _ => cases h
def r11 (K : Fr) (a : Addr) : Addr := match ((fl K a)[11]? : Option Value) with
  | some (Value.ref t) => t
  | _ => 0
theorem no_at {K : Fr} {a : Addr} (h : (K.lookup a).isNone = true) : K.lookup a = none := Option.isNone_iff_eq_none.mp h
end Hx
/-! exceptions of own classes over any built-in one: made, with stored fields, raised -/
namespace DL
open PySem PySem.Spec L2 C8 PyProof.Rows
/-- what the written part says of an exception class -/
structure XCls (K : PySem.W.Frag) (C : Addr) : Prop where
  ex : ∃ (B newId initId : String) (tl bm bs sub : List Value) (nm q : Str) (N : Addr) (sn : List Str) (ab : Bool) (col : Option Bool) (dd : Option Addr) (k0 k1 k2 k3 k5 : Option Value),
    ExcBaseFacts B newId initId tl ∧ K.lookup C = some (excClassObj nm q C N bs bm true sn sub ab col dd k0 k1 k2 k3 k5 newId) ∧ PySem.W.excTail tl bm = true ∧ (∀ self, refuseLoop self "__setattr__" tl = pure ()) ∧ tl.contains (.type "object") = true
  sa : PySem.W.findIn K (.ref C) "__setattr__" = some (some (.builtin "object.__setattr__"))
  sub : PySem.W.subIn K (.ref C) (.type "BaseException") = some true
  ty : PySem.W.typeIn K (.ref C) = some (.type "type")
  kp : PySem.W.keepIn K (.ref C) = true
/-- its class data -/
theorem XCls.cd {K : PySem.W.Frag} {C : Addr} (T : XCls K C) : ∃ c, PySem.W.clsIn K C = some c ∧ c.hasDict = true ∧ c.mro.isEmpty = false ∧ c.mro.contains (.type "object") = true ∧ ∀ self, refuseLoop self "__setattr__" c.mro = pure () := by
  obtain ⟨B, ni, ii, tl, bm, bs, sb, nm, q, N, sn, ab, col, dd, k0, k1, k2, k3, k5, F, hl, ht, hr, ho⟩ := T.ex
  have t2 : PySem.W.excTail tl (.ref C :: bm) = true := ht
  exact ⟨_, by unfold PySem.W.clsIn; rw [hl] <;> rfl, rfl, rfl, (PySem.W.excTail_contains "object" _ t2).trans ho, fun self => PySem.W.excTail_pass self (hr self) _ t2⟩
section
open Builtin Builtin.ObjectAttr PySem.W PySem.Calls
variable {prog : Program} {w : World} {A : Around} {R : Result → Shared → Prop} {hp : Heap} {g : Array GenState} {d : Drawn} {t : Nat} {os : OsState} {K : PySem.W.Frag} {name : Str} {tk : Tok} {v : Value} {x C : Addr} {fv : Array Value}
/-- the walk of object.__setattr__ to the own dict -/
theorem xset_walk {od : Option Obj} {ox : Obj} (X : K.In hp) (T : XCls K C) (I : PySem.W.InstAt hp x ox C od) (ha : PySem.W.findIn K (.ref C) name = some none)
    (hq : wpAny (model prog w) A.in1 (storeInOwnDict (.ref x) (.ref C) (.str name tk) name v false) (fun fin s' => match fin with
      | Fin.done f => R (Except.ok f) s'
      | Fin.again c' => c'.quiet = true ∧ codeAny (model prog w) A c' R s') (fun e s' => R (.error e) s') ⟨hp, g, d, t, os⟩) :
    codeAny (model prog w) A (.call (.builtin "object.__setattr__") ⟨[.ref x, .str name tk, v], []⟩) R ⟨hp, g, d, t, os⟩ := by
  obtain ⟨cd, hcd, hh, he, hob, hr⟩ := T.cd
  have SF := F.store_object
  have isObj : PySem.W.Looks (model prog w) hp (isInstance (.ref x) (.type "object")) true := I.type.andThen (PySem.W.looks_mroIn X (by unfold PySem.W.mroIn; rw [hcd, Option.bind_some, if_neg (by rw [he]; decide), hob]))
  refine codeAny_call_builtin SF.slot.plain SF.entry (@PySem.W.check_slot (model prog w) _ _ ⟨hp, g, d, t, os⟩ "object.__setattr__" "object" "__setattr__" (.ref x) [.str name tk, v] [] _ SF.kind SF.split isObj (SF.args (.ref x) (.str name tk) v) ?_)
  have Lm : PySem.W.Looks (model prog w) hp (mroOf (.ref C)) cd.mro := (PySem.W.looks_clsIn X hcd).andThen .now
  have Ln : PySem.W.Looks (model prog w) hp (storeTaker? none) none := .now
  rw [PySem.W.osa_eq, refuse_eq]
  refine wpAny_bind (wpAny_bind (I.type.at (wpAny_bind (Lm.at ?_))))
  rw [hr (.ref x)]
  exact wpAny_pure (wpAny_bind (I.type.at (wpAny_bind ((PySem.W.looks_findIn X ha).at (wpAny_bind (Ln.at hq))))))
/-- the first field -/
theorem xset_new (X : K.In hp) (T : XCls K C) (hx : hp.get? x = some { cls := .ref C, data := .fields fv }) (ha : PySem.W.findIn K (.ref C) name = some none)
    (hq : ∀ h' tk' dx, (∀ b o, b ≠ x → hp.get? b = some o → h'.get? b = some o) → hp.objs.size ≤ dx → dx ≠ x → h'.get? x = some { cls := .ref C, dict := some dx, data := .fields fv } →
      h'.Ns1 dx (fun y => if y = name then some v else none) → R (.ok (.ret .none)) ⟨h', g, d, tk', os⟩) :
    codeAny (model prog w) A (.call (.builtin "object.__setattr__") ⟨[.ref x, .str name tk, v], []⟩) R ⟨hp, g, d, t, os⟩ := by
  refine xset_walk X T (ox := { cls := .ref C, data := .fields fv }) (od := none) ⟨hx, rfl, rfl, trivial⟩ ha ?_
  obtain ⟨cd, hcd, hh, _⟩ := T.cd
  have far : x ≠ hp.objs.size := Nat.ne_of_lt (Heap.lt_size hx)
  have Lc : PySem.W.Looks (model prog w) hp (classData C) cd := PySem.W.looks_clsIn X hcd
  obtain ⟨y1, y2, y3, y4, y5, y6, y7, y8, y9, y10, y11⟩ := cd
  dsimp only at hh
  subst hh
  unfold storeInOwnDict ownDictForStores
  repeat (first | with_reducible refine PySem.HandSPX.store_in_new ?_ ?_ | with_reducible refine wpAny_loadPart_at hx ?_ | with_reducible refine Lc.at ?_ | wp_step)
  · exact ⟨_, #[], _, (Heap.get?_update_ne _ _ _ _ far.symm).trans (Heap.get?_push_at rfl rfl), rfl, fun e he => absurd he (by simp), fun _ => rfl⟩
  · intro h2 tk2 hn2 hs2
    have hx2 : (hp.push { cls := .type "dict", data := .dict #[] }).get? x = some { cls := .ref C, data := .fields fv } := Heap.get?_push_of_some _ hx
    refine hq h2 tk2 hp.objs.size (fun b o hb ho => ?_) (Nat.le_refl _) far.symm ?_ hn2
    · exact (hs2.2 b (Nat.ne_of_lt (Heap.lt_size ho))).trans ((Heap.get?_update_ne _ _ _ _ hb).trans (Heap.get?_push_of_some _ ho))
    · exact (hs2.2 x far).trans (Heap.get?_update_self _ hx2 rfl)
/-- a further field -/
theorem xset_old {dx : Addr} {m0 : Str → Option Value} {nl : List Str} (X : K.In hp) (T : XCls K C) (hx : hp.get? x = some { cls := .ref C, dict := some dx, data := .fields fv }) (hns : hp.Ns1 dx m0) (hw : Within m0 nl) (hz : nl.length ≤ 1000) (ha : PySem.W.findIn K (.ref C) name = some none)
    (hq : ∀ h' tk', (∀ b o, b ≠ dx → hp.get? b = some o → h'.get? b = some o) → h'.Ns1 dx (fun y => if y = name then some v else m0 y) → R (.ok (.ret .none)) ⟨h', g, d, tk', os⟩) :
    codeAny (model prog w) A (.call (.builtin "object.__setattr__") ⟨[.ref x, .str name tk, v], []⟩) R ⟨hp, g, d, t, os⟩ := by
  obtain ⟨oD, eD, pD, hoD, hdD, _⟩ := hns.count hw
  refine xset_walk X T (ox := { cls := .ref C, dict := some dx, data := .fields fv }) (od := some oD) ⟨hx, rfl, rfl, hoD⟩ ha ?_
  obtain ⟨cd, hcd, hh, _⟩ := T.cd
  have Lc : PySem.W.Looks (model prog w) hp (classData C) cd := PySem.W.looks_clsIn X hcd
  obtain ⟨y1, y2, y3, y4, y5, y6, y7, y8, y9, y10, y11⟩ := cd
  dsimp only at hh
  subst hh
  unfold storeInOwnDict ownDictForStores
  repeat (first | with_reducible refine PySem.OEX.store_in_old hns hw hz ?_ | with_reducible refine wpAny_loadPart_at hx ?_ | with_reducible refine Lc.at ?_ | wp_step)
  intro h2 tk2 hn2 hs2
  exact hq h2 tk2 (fun b o hb ho => (hs2.2 b hb).trans ho) hn2
end
section
variable {X : Cx} {pins : List (Addr × Obj)} {σ : L2.St} {H : Hp} {s : Shared} {a C dx : Addr} {f : Str} {y : V} {u : Value} {fs : List (Str × V)} {Q : Unit → Shared → Prop} {E : Value → Shared → Prop} {A : Around}
/-- self.f = y, the first one -/
theorem xst_new (T : XCls X.K C) (I : Inv X pins σ H s) (e : H a = some (exo a C none)) (hno : PySem.W.findIn X.K (.ref C) f = some none) (ry : RelV y u)
    (h : ∀ dx s', H dx = none → dx ≠ a → Inv X pins σ (upd (upd H dx (exd dx [(f, y)])) a (exo a C (some dx))) s' → Q () s') : wpAny (model X.prog X.w) A (setAttr (.ref a) f u) Q E s := by
  obtain ⟨t1, ho⟩ := exo_at I.hok e
  obtain ⟨hp, g, d, t, os⟩ := s
  refine PySem.W.set_plain I.kIn (ox := { cls := .ref C, dict := none, data := .fields #[.ref t1, .none, .none, .none, .bool false, .none] }) (od := none) ⟨ho, rfl, rfl, trivial⟩ T.sa (xset_new I.kIn T ho hno fun h2 tk2 dx kp dn dne hx hn => ?_)
  have none_dx : H dx = none := I.hok.fresh dn
  have old_ne : ∀ {b : Addr} {o : Obj}, hp.get? b = some o → b ≠ dx := fun {b o} q => Nat.ne_of_lt (Nat.lt_of_lt_of_le (Heap.lt_size q) dn)
  have ne_a : ∀ {b : Addr}, H b = none → b ≠ a := fun {b} n z => by rw [z, e] at n; cases n
  have away : ∀ {b : Addr} {o : HO}, H b = some o → (exo a C none ≠ o) → upd (upd H dx (exd dx [(f, y)])) a (exo a C (some dx)) b = H b := fun {b o} q n => by
    rw [upd_ne (L2.at_ne e q n), upd_ne (ne_of_none q none_dx)]
  have UN : Un X.fs [] H (upd (upd H dx (exd dx [(f, y)])) a (exo a C (some dx))) hp h2 :=
    ⟨fun b o q n _ _ => kp b o (ne_a n) q, fun b o q n _ _ => ⟨o.slots, kp b o (ne_a n) q⟩, fun b o q n _ => by rw [upd_ne (ne_a n), upd_ne (old_ne q)]; exact n,
      fun b o q _ => (Classical.em (b = a)).elim (fun hb => ⟨_, hb.symm ▸ hx⟩) fun hb => ⟨o, kp b o hb q⟩, fun b xs q => (away q exo_tup).trans q, fun b o v q => (away q exo_frz).trans q, fun b ps q => ⟨#[], by rw [away q exo_tbl, q]; simp⟩⟩
  refine h dx _ none_dx dne (I.un (t' := tk2) UN fun b o q => ?_)
  by_cases hb : b = a
  · subst hb
    obtain rfl := Option.some.inj (upd_same.symm.trans q)
    exact exo_ok hx
  · rw [upd_ne hb] at q
    by_cases hd : b = dx
    · subst hd
      obtain rfl := Option.some.inj (upd_same.symm.trans q)
      exact exd_ok hn (relO_put (fs := []) ry fun g => True.intro)
    · rw [upd_ne hd] at q
      exact (I.hok b o q).stay (fun c v hc z => kp c v (hc.elim (fun r => by rw [r]; exact hb) (fun r => L2.at_ne e r exo_own)) z) (fun c hc => (away hc exo_own).trans hc) fun c xs hc => (away hc exo_tup).trans hc
/-- self.f = y, a further one -/
theorem xst_old (T : XCls X.K C) (I : Inv X pins σ H s) (e : H a = some (exo a C (some dx))) (ed : H dx = some (exd dx fs)) (hl : fs.length ≤ 900) (hno : PySem.W.findIn X.K (.ref C) f = some none) (ry : RelV y u)
    (h : ∀ s', Inv X pins σ (upd H dx (exd dx ((f, y) :: fs))) s' → Q () s') : wpAny (model X.prog X.w) A (setAttr (.ref a) f u) Q E s := by
  obtain ⟨t1, ho⟩ := exo_at I.hok e
  obtain ⟨mA, hns, rel⟩ := exd_at I.hok ed
  have wi := within_of rel
  obtain ⟨hp, g, d, t, os⟩ := s
  obtain ⟨oD, e1, e2, hoD, e3, e4⟩ := hns.count wi
  refine PySem.W.set_plain I.kIn (ox := { cls := .ref C, dict := some dx, data := .fields #[.ref t1, .none, .none, .none, .bool false, .none] }) (od := some oD) ⟨ho, rfl, rfl, hoD⟩ T.sa (xset_old I.kIn T ho hns wi (by rw [List.length_map]; omega) hno fun h2 tk2 kp hn => ?_)
  obtain ⟨o2, w1, w2, w3, w4⟩ := id hn
  exact h _ (I.write (t' := tk2) (x := dx) (e := dx) (o := exd dx ((f, y) :: fs)) (by rw [ed]; trivial) (.inl rfl) kp ⟨o2, w3⟩ (exd_ok hn (relO_put ry rel)))
end
/-- self.f = e, self an exception under way -/
def tXst (K : PySem.W.Frag) (f : Str) (to te : TE) : TS := fun D σ H => te σ H fun y H1 => to σ H1 fun x H2 => ∃ a C : Addr, x = .ref a ∧ XCls K C ∧ PySem.W.findIn K (.ref C) f = some none ∧
  ((H2 a = some (exo a C none) ∧ ∀ dx, H2 dx = none → dx ≠ a → D.nx σ (upd (upd H2 dx (exd dx [(f, y)])) a (exo a C (some dx)))) ∨
    ∃ (dx : Addr) (fs : List (Str × V)), H2 a = some (exo a C (some dx)) ∧ H2 dx = some (exd dx fs) ∧ fs.length ≤ 900 ∧ D.nx σ (upd H2 dx (exd dx ((f, y) :: fs))))
theorem ps_xst {X : Cx} {o e : Expr} {to te : TE} {f : Str} {p' pos : Pos} (ho : PE X o to) (he : PE X e te) (hs : swapsWith e (some (.Attribute o f p')) pos.line X.env = pure false := by rfl) : PS X (.Assign [.Attribute o f p'] e pos) (tXst X.K f to te) := by
  refine ⟨fun pins s σ H D I h => plainObj_wpAny_Assign_Attribute (thn (he.run pins s σ H _ I h) fun v s1 ⟨y, H1, I1, r1, q1⟩ => thn (ho.run pins s1 σ H1 _ I1 q1) fun u s2 ⟨x, H2, I2, r2, a, C, ex, T, hno, q⟩ => ?_) hs⟩
  subst ex
  obtain rfl : u = Value.ref a := r2
  rcases q with ⟨ea, q⟩ | ⟨dx, fs, ea, ed, hl, q⟩
  · exact xst_new T I2 ea hno r1 fun dx s' n ne J => ⟨σ, _, J, q dx n ne⟩
  · exact xst_old T I2 ea ed hl hno r1 fun s' J => ⟨σ, _, J, q⟩
end DL
/-! exceptions of own classes: inits that store their parameters; raise -/
namespace DL
open PySem PySem.Spec L2 C8 PyProof.Rows
/-- an init that stores its parameters -/
def spX (K : PySem.W.Frag) (ns : List Str) : Sp := fun vs H Q _ => ∃ (a C : Addr) (ys : List V), vs = .ref a :: ys ∧ ys.length = ns.length ∧ XCls K C ∧ (∀ f ∈ ns, PySem.W.findIn K (.ref C) f = some none) ∧ H a = some (exo a C none) ∧
  ∀ dx, H dx = none → dx ≠ a → Q .non (upd (upd H dx (exd dx (ns.zip ys).reverse)) a (exo a C (some dx)))
theorem spX_len {K : PySem.W.Frag} {ns : List Str} : ∀ vs H Q E, spX K ns vs H Q E → vs.length = ("self" :: ns : List Str).length := by
  rintro vs H Q E ⟨a, C, ys, rfl, l, _⟩
  simp [l]
section
variable {P : Program} {w : World} {K : PySem.W.Frag} {mg : Str → Option Value} {base : Heap} {st : Stmt} {f : Addr} {fd : FuncData} {qual p1 p2 : Str} {k : Nat} {q1 q2 q3 q4 q5 q6 q7 q8 : Pos}
theorem xinit1 (F : L2.Fun K "__init__" qual st f fd) (S : FnScope ["self", p1] ["self", p1] (defScope st)) (hv : Vis (defScope st) "self") (hv1 : Vis (defScope st) p1) (hb : defBody st = [.Assign [.Attribute (.Name "self" q1) p1 q2] (.Name p1 q3) q4])
    (hd : (p1 == ("__debug__" : Str)) = false := by decide) (hc : (p1 == ("__classdict__" : Str)) = false := by decide) : FnOk P w K mg base L2.CX0 (k + 1) f fd ["self", p1] (spX K [p1]) := by
  refine F.ok S spX_len fun cdv A outer s H vs Q E hr hs => ?_
  rw [hb]
  obtain ⟨a, C, ys, rfl, l, T, hf, ea, h⟩ := hs
  match ys, l with
  | [y], _ =>
    refine ⟨_, pss_one (ps_xst (pe_var (i := 0) rfl hv) (pe_var (i := 1) rfl hv1 hd hc)), ?_⟩
    exact ⟨y, rfl, .ref a, rfl, a, C, rfl, T, hf _ (by simp), .inl ⟨ea, fun dx n ne => h dx n ne⟩⟩
end
section
variable {X : Cx} {k : Nat} {f C : Addr} {fd : FuncData} {ps : List Str} {sp : Sp} {x : Str} {p pos : Pos} {e : Expr} {es : List Expr} {ta : TA} {bmB : List Value} {B newId initId : String}
/-- X(e, ..), its init walked -/
theorem pmk_x (T : XCls X.K C) (iC : PySem.W.findIn X.K (.ref C) "__init__" = some (some (.ref f))) (tI : PySem.W.typeIn X.K (.ref f) = some (.type "function")) (G : FnOk X.prog X.w X.K X.mg X.base L2.CX0 k f fd ps sp) (hr : Room (k + 1) X.A) (hb : Binds X.K fd ps []) (hg : Gl X x) (hm : X.mg x = some (.ref C)) (ha : PA X (e :: es) ta)
    (hdb : (x == ("__debug__" : Str)) = false := by decide) (he : starEach (e :: es) X.env = (false, eval e X.env) :: starEach es X.env := by rfl) (hpl : (backTo pos (starEach es X.env)).any (·.1) = false := by rfl) :
    PMk X (.Call (.Name x p) (e :: es) [] pos) (tMkO C sp [] ta) := by
  intro pins s σ H Q I h
  obtain ⟨B, ni, ii, tl, bm, bs, sb, nm, q, N, sn, ab, col, dd, k0, k1, k2, k3, k5, FB, hl, ht, _⟩ := T.ex
  refine wpAny_Call_Name_kw (ld_glob I hg hm ?_ hdb)
  refine PySem.W.callWith_K (h₀ := X.base) I.ok.mod.kin T.kp (thn (ha.run pos pins s σ H _ I h) fun us s1 ⟨vs, H1, I1, r1, hz, q1⟩ => ⟨I1.kIn, ?_⟩) he hpl
  show wpAny _ _ (call (.ref C) us) _ _ _
  obtain ⟨hp, g, dr, tk, os⟩ := s1
  have le1 : hp.objs.size ≤ hp.objs.size + 1 := Nat.le_succ _
  have hn : H1 (hp.objs.size + 1) = none := I1.hok.fresh le1
  have hq := q1 (hp.objs.size + 1) hn
  rw [List.append_nil] at hq
  have up2 : ∀ b o, hp.get? b = some o → ((hp.push (PySem.W.kdv_tup us)).push (PySem.HandSPX.excO C hp.objs.size)).get? b = some o := fun b o z => Heap.get?_push_of_some _ (Heap.get?_push_of_some _ z)
  have there : ((hp.push (PySem.W.kdv_tup us)).push (PySem.HandSPX.excO C hp.objs.size)).get? (hp.objs.size + 1) = some (PySem.HandSPX.excO C hp.objs.size) := by heap_get
  have I2 : Inv X pins σ (upd H1 (hp.objs.size + 1) (exo (hp.objs.size + 1) C none)) ⟨(hp.push (PySem.W.kdv_tup us)).push (PySem.HandSPX.excO C hp.objs.size), g, dr, tk, os⟩ := I1.laid (t' := tk) up2 le1 (exo_ok there)
  have r2 : Vals (V.ref (hp.objs.size + 1) :: vs) (Value.ref (hp.objs.size + 1) :: us) := .cons rfl r1
  have len2 : (Value.ref (hp.objs.size + 1) :: us).length = ps.length := r2.length.symm.trans (G.len _ _ _ _ hq)
  have small : us.length ≤ sizeLine := by rw [← Paired.length r1, sizeLine_eq]; omega
  have bd := hb _ (Value.ref (hp.objs.size + 1) :: us) I2.kIn (by rw [List.append_nil]; exact len2)
  rw [List.append_nil] at bd
  refine wpAny_call (PySem.HandSPX.call_own FB (fun Y => PySem.W.excTail_contains Y bm ht) (I1.kIn _ _ hl) (PySem.W.looks_findIn I1.kIn iC) (fun self => PySem.W.bind_fn I1.kIn self tI) small
    (codeAny_mono (G.run _ X.stack _ _ ⟨Value.ref (hp.objs.size + 1) :: us, []⟩ (Value.ref (hp.objs.size + 1) :: us) _ _ (fun _ _ _ => False) (hr.make C us []) (I2.env0.make C us []) bd r2 hq) fun r s' z => ?_))
  cases r with
  | error er => exact False.elim z
  | ok fl =>
    cases fl with
    | ret u =>
      obtain ⟨v, H2, os2, bare2, un2, hok2, rv, ev, d, fs, ea, ed, hd1, q2⟩ := z
      subst ev
      obtain ⟨h2, g2, d2, t2, os'⟩ := s'
      exact ⟨rv, mk_end (raises_own T.sub T.ty) I1 le1 up2 un2 hok2 os2 bare2 ea ed hd1 q2⟩
    | next => exact False.elim z
    | brk => exact False.elim z
    | cont => exact False.elim z
end
end DL
/-! raise, over data -/
namespace DL
open PySem PySem.Spec L2 C8 PyProof.Rows
def wRaise (C : Addr) (ns : List Str) (wl : WA) : WS := fun D ρ h => wl ρ h (fun ds h1 => ds.length = ns.length ∧ D.ex (.own C (ns.zip ds).reverse) h1) D.ex
section
variable (P : Program) (w : World) (K : PySem.W.Frag) (mg : Str → Option Value) (base : Heap)
/-- the exception class at C bears the name x; its init stores its parameters -/
structure XMk (x : Str) (C : Addr) (k : Nat) (ns : List Str) : Prop where
  ex : ∃ (f : Addr) (fd : FuncData) (ps : List Str), PySem.W.findIn K (.ref C) "__init__" = some (some (.ref f)) ∧ PySem.W.typeIn K (.ref f) = some (.type "function") ∧ FnOk P w K mg base L2.CX0 k f fd ps (spX K ns) ∧ Binds K fd ps []
  cls : XCls K C
  at_ : mg x = some (.ref C)
  no : ∀ f ∈ ns, PySem.W.findIn K (.ref C) f = some none
  sm : ns.length ≤ 1000
end
theorem Sim.growH {K : PySem.W.Frag} {F : Hp} {h : AH} {H : Hp} {p : Addr} (S : Sim K F h H) (e : H p = none) (u : HO) : Sim K F h (upd H p u) := by
  obtain ⟨e1, e2⟩ := S.free e
  refine ⟨fun a o q => ?_, fun a o q => ?_⟩
  · rw [upd_ne (fun z => by rw [z, e1] at q; cases q)]; exact S.fz _ _ q
  · rw [upd_ne (fun z => by rw [z, e2] at q; cases q)]; exact S.ob _ _ q
theorem RepF.app {K : PySem.W.Frag} {F : Hp} : ∀ {xs ys : List (Str × D)} {vs ws : List (Str × V)}, RepF K F xs vs → RepF K F ys ws → RepF K F (xs ++ ys) (vs ++ ws)
  | _, _, _, _, .nil, s => s
  | _, _, _, _, .cons h t, s => .cons h (RepF.app t s)
theorem RepF.rev {K : PySem.W.Frag} {F : Hp} : ∀ {xs : List (Str × D)} {vs : List (Str × V)}, RepF K F xs vs → RepF K F xs.reverse vs.reverse
  | _, _, .nil => .nil
  | _, _, .cons (k := k) h t => by rw [List.reverse_cons, List.reverse_cons]; exact RepF.app (RepF.rev t) (.cons h .nil)
theorem RepF.zip {K : PySem.W.Frag} {F : Hp} : ∀ (ns : List Str) {xs : List D} {vs : List V}, Reps K F xs vs → RepF K F (ns.zip xs) (ns.zip vs)
  | [], _, _, _ => .nil
  | _ :: _, _, _, .nil => .nil
  | n :: ns, _, _, .cons h t => .cons h (RepF.zip ns t)
section
variable {X : Cx} {E : XK} {gz : Bool} {k j : Nat} {C : Addr} {x : Str} {ns : List Str} {e : Expr} {es : List Expr} {wl : WA} {p pos pos' : Pos}
theorem as_raise (c : Cg gz X E k) (M : XMk X.prog X.w X.K X.mg X.base x C j ns) (hj : j + 1 ≤ k) (hl : AA X E (e :: es) wl) (tk : Takes X (fun cls d _ H => E cls d H) := by exact takes_of rfl rfl rfl rfl) (hg : Gl X x := by rfl)
    (hdb : (x == ("__debug__" : Str)) = false := by decide) (he : starEach (e :: es) X.env = (false, eval e X.env) :: starEach es X.env := by rfl) (hpl : (backTo pos (starEach es X.env)).any (·.1) = false := by rfl) :
    AS X E (.Raise (some (.Call (.Name x p) (e :: es) [] pos)) none pos') (wRaise C ns wl) := by
  obtain ⟨f, fd, ps, iC, tI, G, B⟩ := M.ex
  refine ⟨PS.imp (ps_raise c.calm tk (pmk_x M.cls iC tI G (c.room.mono hj) B hg M.at_ hl.run hdb he hpl)) fun D σ H hq => ?_, fun D D' ρ h hD q => hl.mo _ _ _ _ _ _ (fun ds h1 z => ⟨z.1, hD.ex _ _ z.2⟩) hD.ex q⟩
  obtain ⟨F, ρ, h, S, R, q⟩ := hq
  refine ⟨F, ρ, h, S, R, hl.mo _ _ _ _ _ _ (fun ds h1 z => ?_) (fun _ _ z => z) q⟩
  obtain ⟨l, z⟩ := z
  intro F1 H1 vs e1 S1 r
  have lv : vs.length = ns.length := by rw [← r.length]; exact l
  refine ⟨by rw [lv]; exact M.sm, fun a na => ?_⟩
  rw [List.append_nil]
  refine ⟨a, C, vs, rfl, lv, M.cls, M.no, upd_same, fun dx nd ne => ⟨rfl, dx, _, upd_same, by rw [upd_ne ne, upd_same], by rw [upd_ne ne] at nd; exact nd, ?_⟩⟩
  have nd1 : H1 dx = none := by rw [upd_ne ne] at nd; exact nd
  have eH : upd (L2.del (upd (upd (upd H1 a (exo a C none)) dx (exd dx (ns.zip vs).reverse)) a (exo a C (some dx))) a) dx (.xd (ns.zip vs).reverse) = upd H1 dx (.xd (ns.zip vs).reverse) := by
    funext b
    by_cases h1 : b = dx
    · subst h1; rw [upd_same, upd_same]
    · rw [upd_ne h1, upd_ne h1]
      by_cases h2 : b = a
      · subst h2; rw [L2.del_same, na]
      · rw [L2.del_ne h2, upd_ne h2, upd_ne h1, upd_ne h2]
  rw [eH]
  exact z F1 _ _ _ e1 (S1.growH nd1 _) ⟨rfl, .inr ⟨dx, _, rfl, upd_same, RepF.rev (RepF.zip ns r)⟩⟩
end
theorem u_raise {C : Addr} {ns : List Str} {wl : WA} {D : EndsD} {ρ : EnvD} {h : AH} : wRaise C ns wl D ρ h = wl ρ h (fun ds h1 => ds.length = ns.length ∧ D.ex (.own C (ns.zip ds).reverse) h1) D.ex := rfl
end DL
/-! try .. except (A, B, C) as e: y = e, the exception kept behind it -/
namespace DL
open PySem PySem.Spec L2 C8 PyProof.Rows
/-- the class test of an except clause -/
def XTest (X : Cx) (t : Expr) (ok : Value → Option Bool) : Prop :=
  ∀ (a : Addr) (pn : List (Addr × Obj)) (σ : L2.St) (H : Hp) (s : Shared) (cls : Value) (b : Bool) (E : Value → Shared → Prop) (Q : Bool → Shared → Prop), Inv (X.suite a pn) [] σ H s → PySem.W.Looks (model X.prog X.w) s.heap (typeOf (.ref a)) cls → ok cls = some b →
    (∀ h', (∀ q o, s.heap.get? q = some o → h'.get? q = some o) → Q b { s with heap := h' }) → wpAny (model X.prog X.w) (X.A.mark (some (.ref a))) (eval t X.env) (fun c s1 => wpAny (model X.prog X.w) (X.A.mark (some (.ref a))) (excMatches (.ref a) c) Q E s1) E s
theorem xt_name {X : Cx} {a1 a2 : Addr} {pn : List (Addr × Obj)} {σ : L2.St} {H : Hp} {s : Shared} {x : Str} {c : Value} {np : Pos} {Q : Value → Shared → Prop} {E : Value → Shared → Prop} (hc : Names X x c) (I : Inv (X.suite a1 pn) [] σ H s) (q : Q c s) :
    wpAny (model X.prog X.w) (X.A.mark (some (.ref a1))) (eval (.Name x np) X.env) Q E s := by
  obtain ⟨hg, hd, hm | ⟨hm, hv, hn⟩⟩ := hc
  · exact ld_glob (X := X.suite a1 pn) I hg hm q hd
  · exact ld_blt (X := X.suite a1 pn) I hg hm hv q hn hd
theorem xt_three {X : Cx} {x1 x2 x3 : Str} {c1 c2 c3 : Value} {p1 p2 p3 tpos : Pos} {kk : Nat} (n1 : Names X x1 c1) (n2 : Names X x2 c2) (n3 : Names X x3 c3) :
    XTest X (.Tuple [.Name x1 p1, .Name x2 p2, .Name x3 p3] kk tpos) (fun cls => PySem.W.exmAny X.K cls [c1, c2, c3]) := fun a pn σ H s cls b E Q I LT e q => by
  refine wpAny_Tuple (wpAny_items_cons (xt_name (a2 := a) n1 I (wpAny_items_cons (xt_name (a2 := a) n2 I (wpAny_items_cons (xt_name (a2 := a) n3 I (wpAny_items_nil ⟨by size_fits, ?_⟩)))))))
  have kp : ∀ y o, s.heap.get? y = some o → (s.heap.push { cls := .type "tuple", data := .seq [c1, c2, c3].toArray }).get? y = some o := fun _ _ z => Heap.get?_push_of_some _ z
  exact (PySem.W.exm_tup3 (I.kIn.keeps kp) (LT.keeps kp) (Heap.get?_push_size s.heap rfl) e).here (q _ kp)
theorem flying_keep {base h h' : Heap} {l : List Env} {e : Addr} {Z : Obj → Prop} (x : HandSPX.FlyingZ base l e Z h) (k : ∀ b o, h.get? b = some o → h'.get? b = some o) : HandSPX.FlyingZ base l e Z h' := by
  obtain ⟨f1, f2, f3, oe, vs, T, oT, ts, he, hz, hd, h1, hn, hne, hT, hdT, h3⟩ := x
  exact ⟨fun b o q => k b o (f1 b o q), f2, f3.of_keeps fun b o q _ => ⟨o, k b o q, rfl⟩, oe, vs, T, oT, ts, k _ _ he, hz, hd, h1, hn, hne, k _ _ hT, hdT, h3⟩
/-- an object of the heap that is new since the entry is known from now on -/
theorem inv_track {X : Cx} {pins : List (Addr × Obj)} {σ : L2.St} {H : Hp} {s : Shared} {a : Addr} {o : HO} (I : Inv X pins σ H s) (n : H a = none) (n0 : X.s_0.heap.get? a = none) (nL : a ≠ X.env.locals) (nC : ∀ x c, X.env.cells.lookup x = some c → c ≠ a) (nP : ∀ p ∈ X.pn ++ pins, p.1 ≠ a)
    (new : ObjOk X.prog X.w (upd H a o) s.heap a o) : Inv X pins σ (upd H a o) s := by
  have away : ∀ {b : Addr} {u : HO}, H b = some u → upd H a o b = H b := fun {b u} q => upd_ne (ne_of_none q n)
  refine ⟨I.ok, I.os, I.bare, ⟨I.base.keep, I.base.slot, fun b u e q hx => ?_, I.base.there, fun b xs q => ?_, fun b u xs q => ?_, fun b ps q => ?_⟩, I.loc, I.cell, ?_, fun x c e => ?_, fun p hp => ?_, fun b u e => ?_, I.len⟩
  · rw [upd_ne (fun z => by rw [z, n0] at e; cases e)]
    exact I.base.free b u e q hx
  · have z := I.base.tups b xs q
    rw [away z]; exact z
  · have z := I.base.frzs b u xs q
    rw [away z]; exact z
  · obtain ⟨m, z⟩ := I.base.tbls b ps q
    exact ⟨m, by rw [away z]; exact z⟩
  · rw [upd_ne (Ne.symm nL)]; exact I.free
  · rw [upd_ne (nC x c e)]; exact I.freeC x c e
  · obtain ⟨h1, h2, h3, h4, h5⟩ := I.pin p hp
    exact ⟨h1, by rw [upd_ne (nP p hp)]; exact h2, h3, h4, h5⟩
  · by_cases hb : b = a
    · subst hb
      obtain rfl := Option.some.inj (upd_same.symm.trans e)
      exact new
    · rw [upd_ne hb] at e
      exact (I.hok b u e).stay (fun c v _ z => z) (fun c z => (away z).trans z) fun c xs z => (away z).trans z
theorem exV_ok {P : Program} {w : World} {H : Hp} {h : Heap} {a C : Addr} {d : Option Addr} {oe : Obj} {vs : Array Value} (e : h.get? a = some oe) (z : Zc (.ref C) d oe) (hd : oe.data = .fields vs) : ObjOk P w H h a (exV a C d) :=
  ⟨⟨oe, vs, e, z, hd⟩, ⟨oe, e⟩, fun _ _ ⟨o, v, q, r⟩ k => ⟨o, v, k o q, r⟩⟩
/-- what the clause wishes: slot i is the clause's name, slot j keeps the exception -/
def wKeep (ok : Value → Option Bool) (i j : Nat) (Wout : WX) (D : Ends) : WX := fun cls d σ H =>
  ∃ b, ok cls = some b ∧ (b = true → ∃ C, cls = .ref C ∧ ∀ a, H a = none → D.nx (((σ.set i (some (.ref a))).set j (some (.ref a))).set i none) (upd H a (exV a C d))) ∧ (b = false → Wout cls d σ H)
section
variable {X : Cx} {n : Str} {i j : Nat} {body suite : List Stmt} {b₀ : Stmt} {te : Expr} {pos pos' : Pos} {tb : WX → TS} {Wout : WX} {ok : Value → Option Bool}
theorem ps_try_keep (hex : X.ex = []) (hs : X.stack = X.env :: X.outer) (hf : X.env.frame = some X.env.locals) (hN : X.N.Nodup) (hi : X.N[i]? = some n) (hln : X.env.kindOf n = some .local) (ht : XTest X te ok) (tk : Takes X Wout)
    (hb : ∀ (W : WX) (pn : List (Addr × Obj)) (xe : Value → Shared → Prop), Takes (X.tr pn xe) W → PassesOwn (model X.prog X.w) X.A X.env xe → PSs (X.tr pn xe) body (tb W))
    (hsu : ∀ (a : Addr) (pn : List (Addr × Obj)), PSs (X.suite a pn) (b₀ :: suite) (fun D σ H => ∃ v, σ[i]? = some (some v) ∧ D.nx (σ.set j (some v)) H)) (hij : i < X.N.length) :
    PS X (.Try body [.ExceptHandler (some te) (some n) (b₀ :: suite) pos'] [] [] pos) (fun D σ H => tb (wKeep ok i j Wout D) D σ H) := by
  refine ⟨fun pins s σ H D I h => ?_⟩
  have okX := I.ok
  have hfr : X.A.frames = some (X.env :: X.outer) := by rw [okX.frames, hs]
  have hloc : Loc X.env.scope n := .inl hln
  refine wpAny_Try_except (wpAny_mono ((hb (wKeep ok i j Wout D) (X.pn ++ pins) (fun e s₁ => wpAny (model X.prog X.w) X.A (noteFrame e X.env) (fun _ s₂ => wpAny (model X.prog X.w) X.A (setFlight e none) (fun _ s₃ =>
    wpAny (model X.prog X.w) X.A (handleBy e X.env [.ExceptHandler (some te) (some n) (b₀ :: suite) pos']) (SP X pins D) X.xe s₃) X.xe s₂) X.xe s₁) (fun u s' xx => ?_) PassesOwn.looking).run [] s σ H D (I.toTry _) h) (fun f s1 hsp => ?_) (fun e s1 he => he))
  · obtain ⟨a, B, sI, pins', σ', H', cls, d, rfl, J', nb, up, sky, na, os, ag, b, hb1, hyes, hno⟩ := xx
    have J : Inv X pins σ' H' sI := J'.ofTry okX
    have sky2 : Sky B (X.env :: X.outer) a (Zc cls d) X.env.locals s'.heap := by rw [← hs]; exact sky
    show wpAny (model X.prog X.w) X.A (noteFrame (.ref a) X.env) _ _ _
    refine Sky.land Zc.steady hfr hf sky2 fun h3 fl3 up3 => ?_
    have J3 : Inv X pins σ' H' { s' with heap := h3 } := J.landed nb fl3.1 (up.trans up3) os ag
    obtain ⟨oe3, vs3, he3, hz3, hd3⟩ := fl3.there
    have outFr : ∀ {h : Heap} {o : Obj} {vs : Array Value}, h.FunFrames B (X.env :: X.outer) → h.get? a = some o → o.data = .fields vs → a ∉ frs (X.env :: X.outer) := fun {h o vs} ff e dd hm => by
      obtain ⟨_, o2, e2, nf2⟩ := ff.mem hm
      rw [e] at e2
      obtain rfl := Option.some.inj e2
      exact nf2 _ dd
    have nfr := outFr fl3.2.2.1 he3 hd3
    have nL : a ≠ X.env.locals := fun z => nfr (List.mem_filterMap.mpr ⟨X.env, List.mem_cons_self, by rw [hf, z]⟩)
    have nF : a ∉ X.fs := fun hm => by
      obtain ⟨e, he, q⟩ := List.mem_filterMap.mp hm
      exact nfr (List.mem_filterMap.mpr ⟨e, List.mem_cons_of_mem _ he, q⟩)
    have nI : sI.heap.get? a = none := by
      cases q : sI.heap.get? a with
      | none => rfl
      | some o =>
        have z := nb a o q (by rw [hs]; exact nfr)
        rw [fl3.2.1] at z; cases z
    have S3 := J3.suite he3 hd3 na nL nF
    have LT : PySem.W.Looks (model X.prog X.w) h3 (typeOf (.ref a)) cls := fun A Q E s k q => wpAny_typeOf_ref (k _ _ he3) (by rw [hz3.1]; exact q)
    refine wpAny_handleBy_cons (codeAny_handlers_test (ht a _ σ' H' _ cls b _ _ S3 LT hb1 fun h4 kp => ?_)) (by intro q; cases q)
    have fl4 := flying_keep fl3 kp
    have up4 := (up.trans up3).trans (Heap.UpToSlots.of_keeps kp)
    cases b with
    | true =>
      obtain ⟨C, hC, go1⟩ := hyes rfl
      subst hC
      refine codeAny_handlers_suite_as (HandSPX.lands_againZ fl4 fun h5 fl5 up5 => ?_)
      have J5 : Inv X pins σ' H' { s' with heap := h5 } := J.landed nb fl5.1 (up4.trans up5) os ag
      obtain ⟨oe5, vs5, he5, hz5, hd5⟩ := fl5.there
      have S5 := J5.suite he5 hd5 na nL nF
      refine store_ok (X := X.suite a ((a, oe5) :: (X.pn ++ pins))) (v := .ref a) S5 hN hi hloc rfl (fun s6 S6 => ?_) (.inr hln)
      refine wpAny_mono ((hsu a ((a, oe5) :: (X.pn ++ pins))).run [] s6 _ H' { nx := fun σ7 H7 => σ7 = (σ'.set i (some (.ref a))).set j (some (.ref a)) ∧ H7 = H', rt := fun _ _ => False } S6 ⟨.ref a, ?_, rfl, rfl⟩) (fun f s7 hsp => ?_) (fun _ _ z => False.elim z)
      · exact List.getElem?_set_self (by rw [J.len]; exact hij)
      · cases f with
        | next =>
          obtain ⟨σ7, H7, S7, rfl, rfl⟩ := hsp
          obtain ⟨hpin, _⟩ := S7.pin (a, oe5) (List.mem_append_left _ List.mem_cons_self)
          have J7 : Inv X pins _ H7 s7 := S7.unsuite okX
          have n0 : X.s_0.heap.get? a = none := by
            cases q : X.s_0.heap.get? a with
            | none => rfl
            | some o =>
              obtain ⟨o2, z⟩ := J.base.there a o q (by rw [hex]; simp)
              rw [nI] at z; cases z
          have J8 := inv_track (o := exV a C d) J7 na n0 nL (fun x c e z => by
              obtain ⟨v, o, ho, hdc⟩ := J7.cell x c e
              rw [z, hpin] at ho
              obtain rfl := Option.some.inj ho
              rw [hd5] at hdc; cases hdc) (fun p hp z => by
              have y := (J.pin p hp).1
              rw [z, nI] at y; cases y) (exV_ok hpin hz5 hd5)
          exact gone_ok J8 hN hi hln fun s8 J9 => ⟨_, _, J9, go1 a na⟩
        | brk => obtain ⟨_, _, _, z⟩ := hsp; exact z.elim
        | cont => obtain ⟨_, _, _, z⟩ := hsp; exact z.elim
        | ret u => obtain ⟨_, _, _, _, _, z⟩ := hsp; exact z.elim
    | false =>
      show wpAny _ X.A (handleBy (.ref a) X.env []) _ _ _
      refine wpAny_handleBy_nil ?_
      obtain ⟨k1, k2, k3, oe, vs, T, oT, ts, he, hz, hd, h1, hr⟩ := id fl4
      unfold PySem.passOn
      refine wpAny_bind (wpAny_field he hd h1 ?_)
      rw [if_neg (show ¬ ((Value.ref T == Value.none) = true) from by simp)]
      have out : wpAny (model X.prog X.w) X.A (setFlight (.ref a) X.env.frame) (fun _ s5 => wpAny (model X.prog X.w) X.A (throw (.ref a) : Sem Flow) (SP X pins D) X.xe s5) X.xe { s' with heap := h4 } := by
        rw [hf]
        exact HandSPX.setFlight_upZ fl4 fun h5 hh5 up5 => wpAny_throw (tk _ _ ⟨a, B, sI, pins, σ', H', cls, d, rfl, J, nb, up4.trans up5, .inr (.inr (by rw [hs]; exact hh5)), na, os, ag, hno rfl⟩)
      first
        | exact wpAny_bind (wpAny_pure (wpAny_bind out))
        | exact wpAny_bind out
  · cases f with
    | next => obtain ⟨σ2, H2, K2, q⟩ := hsp; exact wpAny_execs_nil ⟨σ2, H2, K2.ofTry okX, q⟩
    | brk => obtain ⟨σ2, H2, K2, q⟩ := hsp; exact ⟨σ2, H2, K2.ofTry okX, q⟩
    | cont => obtain ⟨σ2, H2, K2, q⟩ := hsp; exact ⟨σ2, H2, K2.ofTry okX, q⟩
    | ret u => obtain ⟨v, σ2, H2, K2, r, q⟩ := hsp; exact ⟨v, σ2, H2, K2.ofTry okX, r, q⟩
end
end DL
namespace DL
open PySem PySem.Spec L2 C8 PyProof.Rows
/-- what is done with an exception of the classes errs: slot j of an empty frame keeps it -/
def exH (errs : List Addr) (n j : Nat) (D : EndsD) : KX := fun x h => match x with
  | .own C fs => C ∈ errs ∧ D.nx ((List.replicate n none).set j (some (.xob C fs))) h
  | .blt _ => False
def wTry (errs : List Addr) (n j : Nat) (wb : WS) : WS := fun D ρ h => wb { D with ex := exH errs n j D } ρ h
/-- an exception's dict is no object that may change -/
theorem xd_free {K : PySem.W.Frag} {F : Hp} {h : AH} {H : Hp} {dd : Addr} {vs : List (Str × V)} (S : Sim K F h H) (e : H dd = some (.xd vs)) : h dd = none := by
  cases q : h dd with
  | none => rfl
  | some o =>
    obtain ⟨_, u, hu, r⟩ := S.ob _ _ q
    rw [e] at hu
    obtain rfl := Option.some.inj hu
    cases o with
    | lst _ => obtain ⟨_, z, _⟩ := r; cases z
    | dK _ => obtain ⟨_, z, _⟩ := r; cases z
    | dT _ => obtain ⟨_, z, _⟩ := r; cases z
    | ins _ _ => obtain ⟨_, _, z, _⟩ := r; cases z
    | lck _ => obtain ⟨_, _, z, _⟩ := r; cases z
    | lckK _ _ => obtain ⟨_, z, _⟩ := r; cases z
    | tab _ => obtain ⟨_, z, _⟩ := r; cases z
/-- an object that stands in the heap and doesn't change is known from now on -/
theorem Sim.know {K : PySem.W.Frag} {F : Hp} {h : AH} {H : Hp} {p : Addr} {u : HO} (S : Sim K F h H) (e : H p = some u) (n : h p = none) : Ext F (upd F p u) ∧ Sim K (upd F p u) h H := by
  have ext : Ext F (upd F p u) := fun a o q => by
    by_cases c : a = p
    · subst c
      have z := S.fz _ _ q
      rw [e] at z
      rw [upd_same]; exact z
    · rw [upd_ne c]; exact q
  refine ⟨ext, fun a o q => ?_, fun a o q => ?_⟩
  · by_cases c : a = p
    · subst c
      rw [upd_same] at q
      rw [← q]; exact e
    · rw [upd_ne c] at q; exact S.fz _ _ q
  · have c : a ≠ p := fun z => by rw [z, n] at q; cases q
    obtain ⟨f, w, hw, r⟩ := S.ob _ _ q
    exact ⟨by rw [upd_ne c]; exact f, w, hw, r.ext ext⟩
/-- the kept exception, over data -/
theorem keep_sim {K : PySem.W.Frag} {F : Hp} {h : AH} {H : Hp} {C a : Addr} {d : Option Addr} {fs : List (Str × D)} {cls : Value} (S : Sim K F h H) (r : RepX K F H (.own C fs) cls d) (na : H a = none) :
    ∃ F2, Ext F F2 ∧ Sim K F2 h (upd H a (exV a C d)) ∧ Rep K F2 (.xob C fs) (.ref a) := by
  obtain ⟨_, ⟨rfl, rfl⟩ | ⟨dd, vs, rfl, hd, rf⟩⟩ := r
  · exact ⟨_, ext_upd (S.free na).1, S.newF na _, .xob0 upd_same⟩
  · obtain ⟨e1, S1⟩ := S.know hd (xd_free S hd)
    have e2 := ext_upd (o := exV a C (some dd)) (S1.free na).1
    exact ⟨_, e1.trans e2, S1.newF na _, .xob upd_same (e2 _ _ upd_same) ((rf.ext e1).ext e2)⟩
section
variable {X : Cx} {E : XK} {gz : Bool} {k i j : Nat} {n y x1 x2 x3 : Str} {c1 c2 c3 : Value} {body : List Stmt} {pos pos' p1 p2 p3 q1 q2 q3 q4 : Pos} {kk : Nat} {wb : WS} {errs : List Addr}
theorem takes_len {W : WX} {X : Cx} (t : Takes X W) : Takes X (fun cls d _ H => ∀ σ : L2.St, σ.length = X.N.length → W cls d σ H) := fun u s' ⟨a, B, sI, pins, σ, H, cls, d, e, I, nb, up, sky, na, os, ag, w⟩ =>
  t u s' ⟨a, B, sI, pins, σ, H, cls, d, e, I, nb, up, sky, na, os, ag, w σ I.len⟩
/-- in the body of a try -/
theorem cg_try (c : Cg gz X E k) {pn : List (Addr × Obj)} {xe : Value → Shared → Prop} {W : WX} (t : Takes (X.tr pn xe) W) (po : PassesOwn (model X.prog X.w) X.A X.env xe) : Cg gz (X.tr pn xe) (fun cls d H => ∀ σ : L2.St, σ.length = X.N.length → W cls d σ H) k :=
  ⟨c.room, c.gd, c.calm, c.nd, passes_call (takes_len t) (fun _ _ _ _ z => z), po⟩
theorem as_try (i j : Nat) (c : Cg gz X E k) (he : ∀ C ∈ errs, PySem.W.exmAny X.K (.ref C) [c1, c2, c3] = some true) (m1 : X.mg x1 = some c1) (m2 : X.mg x2 = some c2) (m3 : X.mg x3 = some c3)
    (hb : ∀ (pn : List (Addr × Obj)) (xe : Value → Shared → Prop) (E' : XK), Takes (X.tr pn xe) (fun cls d _ H => E' cls d H) → Cg gz (X.tr pn xe) E' k → ASs (X.tr pn xe) E' body wb)
    (hij : i ≠ j) (g1 : Gl X x1 := by rfl) (g2 : Gl X x2 := by rfl) (g3 : Gl X x3 := by rfl) (d1 : (x1 == ("__debug__" : Str)) = false := by decide) (d2 : (x2 == ("__debug__" : Str)) = false := by decide) (d3 : (x3 == ("__debug__" : Str)) = false := by decide)
    (tk : Takes X (fun cls d _ H => E cls d H) := by exact takes_of rfl rfl rfl rfl)
    (hi : X.N[i]? = some n := by rfl) (hj : X.N[j]? = some y := by rfl) (hs : X.stack = X.env :: X.outer := by rfl) (hf : X.env.frame = some X.env.locals := by rfl) (hex : X.ex = [] := by rfl) (hln : X.env.kindOf n = some .local := by rfl)
    (hy : Loc X.env.scope y := by first | exact Or.inl rfl | exact Or.inr rfl) (hfy : X.fn y = true ∨ X.env.scope.names.lookup y = some .local := by first | exact .inl rfl | exact .inr rfl) (hv : Vis X.env.scope n := by exact Or.inl rfl)
    (hsw : swapsWith (.Name n p2) (some (.Name y p1)) p3.line X.env = pure false := by rfl) (hd : (n == ("__debug__" : Str)) = false := by decide) (hcd : (n == ("__classdict__" : Str)) = false := by decide) :
    AS X E (.Try body [.ExceptHandler (some (.Tuple [.Name x1 q1, .Name x2 q2, .Name x3 q3] kk q4)) (some n) [.Assign [.Name y p1] (.Name n p2) p3] pos'] [] [] pos) (wTry errs X.N.length j wb) := by
  have li : i < X.N.length := (List.getElem?_eq_some_iff.mp hi).1
  have lj : j < X.N.length := (List.getElem?_eq_some_iff.mp hj).1
  have hmo : MoS wb := by
    have tk2 : Takes (X.tr X.pn X.xe) (fun cls d _ H => E cls d H) := tk
    refine (hb X.pn X.xe E tk2 ?_).mo
    exact ⟨c.room, c.gd, c.calm, c.nd, passes_call (X := X.tr X.pn X.xe) tk2 (fun _ _ _ _ z => z), c.po⟩
  refine ⟨PS.imp (ps_try_keep (j := j) (ok := fun cls => PySem.W.exmAny X.K cls [c1, c2, c3]) (Wout := fun cls d _ H => E cls d H) (tb := fun W => tS X.K (fun cls d H => ∀ σ : L2.St, σ.length = X.N.length → W cls d σ H) wb)
    hex hs hf c.nd hi hln (xt_three ⟨g1, d1, .inl m1⟩ ⟨g2, d2, .inl m2⟩ ⟨g3, d3, .inl m3⟩) tk (fun W pn xe t po => (hb pn xe _ (takes_len t) (cg_try c t po)).run) (fun a pn => pss_one (ps_set (X := X.suite a pn) c.nd hj hy (pe_var (X := X.suite a pn) hi hv hd hcd) hsw hfy)) li) fun D σ H hq => ?_, fun D D' ρ h hD q => hmo { D with ex := exH errs X.N.length j D } { D' with ex := exH errs X.N.length j D' } ρ h ⟨hD.nx, hD.rt, hD.bk, hD.ct, fun x h1 z => ?_⟩ q⟩
  · obtain ⟨F, ρ, h, S, R, q⟩ := hq
    refine ⟨F, ρ, h, S, R, hmo { LD X.K F D E with ex := exH errs X.N.length j (LD X.K F D E) } _ ρ h ⟨fun _ _ z => z, fun _ _ z => z, fun _ _ z => z, fun _ _ z => z, fun x h1 z => ?_⟩ q⟩
    intro F1 H1 cls d e1 S1 rx
    cases x with
    | blt b => exact z.elim
    | own C fs =>
      obtain ⟨hC, z⟩ := z
      intro σ1 l1
      have hcls : cls = .ref C := rx.1
      refine ⟨true, by rw [hcls]; exact he C hC, fun _ => ⟨C, hcls, fun a na => ?_⟩, fun z => Bool.noConfusion z⟩
      obtain ⟨F2, e2, S2, rep⟩ := keep_sim S1 rx na
      refine z F2 _ _ (e1.trans e2) S2 ⟨by simp [l1], fun m d hm => ?_⟩
      by_cases c : m = j
      · subst c
        rw [List.getElem?_set_self (by simpa using lj)] at hm
        obtain rfl := Option.some.inj (Option.some.inj hm)
        refine ⟨.ref a, ?_, rep⟩
        rw [List.getElem?_set_ne hij, List.getElem?_set_self (by simpa [l1] using lj)]
      · rw [List.getElem?_set_ne (Ne.symm c), List.getElem?_replicate] at hm
        split at hm <;> cases hm
  · cases x with
    | blt b => exact z
    | own C fs => exact ⟨z.1, hD.nx _ _ z.2⟩
end
theorem u_try {errs : List Addr} {n j : Nat} {wb : WS} {D : EndsD} {ρ : EnvD} {h : AH} : wTry errs n j wb D ρ h = wb { D with ex := exH errs n j D } ρ h := rfl
end DL
/-! x(lambda: ..), over data -/
namespace DL
open PySem PySem.Spec L2 C8 PyProof.Rows LamX
section
variable {X : Cx} {pins : List (Addr × Obj)} {σ : L2.St} {H : Hp} {s : Shared}
/-- the lambda is made; its code object is known -/
theorem lam_make3 {F : Hp} {h : AH} {c P : Addr} {params : Arguments} {body : Expr} {scope : Scope} {pos : Pos} {E : Value → Shared → Prop} {Q : Value → Shared → Prop} (I : Inv X pins σ H s) (TB : TabB X.base X.mg c P) (hcode : X.env.code = .ref c) (S : Sim X.K F h H)
    (hP : h P = some (.tab (X.env.qual ++ "<lambda>"))) (hdef : defaultsOf params X.env = ([], [])) (hfree : ∀ y ∈ scope.names, y.2 = .free → ∃ c, X.env.cells.lookup y.1 = some c)
    (go : ∀ (f c' : Addr) (pm ctv : Value) (H1 F1 : Hp) (s' : Shared), Inv X pins σ H1 s' → Ext F F1 → Sim X.K F1 h H1 → s'.heap.get? f = some (PySem.W.kla_obj "<lambda>" (X.env.qual ++ "<lambda>") params body scope (cloFrom X.env.cells scope.names []) pm c' ctv) →
      H1 f = none → f ∉ frs X.stack → F1 c' = some (CodeO c' (X.env.qual ++ "<lambda>")) → Q (.ref f) s') :
    wpAny (model X.prog X.w) X.A (eval (.Lambda params body scope pos) X.env) Q E s := by
  obtain ⟨FP, u, HP, ps, rfl, tr, am⟩ := S.ob _ _ hP
  refine PySem.W.kla_eval hdef ?_
  have builtP : s.heap.BuiltinsAt X.mg P := TB.bm.keeps I.bk
  have atP : s.heap.get? P = some { cls := .none, data := .fields ps } := I.hok P _ HP
  have outside : ∀ f, s.heap.objs.size ≤ f → f ∉ frs X.stack := fun f hf z => by
    rcases List.mem_cons.mp (I.stkSub _ z) with e | e
    · have l1 := I.lt
      rw [← e] at l1
      exact Nat.lt_irrefl _ (Nat.lt_of_lt_of_le l1 hf)
    · exact I.nofs hf e
  cases hc : codeAmong pos ps.toList with
  | some cv =>
    obtain ⟨c', rfl, hF⟩ := am pos cv hc
    refine PySem.W.kla_makeFunctionHit (mg := X.mg) (c := c) (P := P) (ps := ps) (closure_ok hfree) I.ok.glob (I.mod.glob.keeps I.bk) hcode (TB.code.keeps I.bk) atP tr hc builtP fun ctv h2 tk2 kx hsz => ?_
    exact go h2.objs.size c' ((X.mg "__name__").getD .none) ctv H F _ (I.kept fun b o e => Heap.get?_push_of_some _ (kx b o e)) (Ext.refl F) S (Heap.get?_push_size _ rfl) (I.hok.fresh hsz) (outside _ hsz) hF
  | none =>
    refine PySem.W.kla_makeFunction (mg := X.mg) (c := c) (P := P) (ps := ps) (closure_ok hfree) I.ok.glob (I.mod.glob.keeps I.bk) hcode (TB.code.keeps I.bk) atP tr hc TB.gP builtP fun c' ctv h2 tk2 kx hge hlt rec2 tb2 => ?_
    obtain ⟨c2, oc, vs, t, e2, hoc, hd, hv⟩ := rec2
    obtain rfl := Value.ref.inj e2
    have sz : s.heap.objs.size ≤ h2.objs.size := Nat.le_trans hge (Nat.le_of_lt hlt)
    have nC : H c' = none := I.hok.fresh hge
    have J := inv_table (t' := tk2) (more := #[rawInt pos.line, rawInt pos.col, .ref c']) (h' := h2.push (PySem.W.kla_obj "<lambda>" (X.env.qual ++ "<lambda>") params body scope (cloFrom X.env.cells scope.names []) ((X.mg "__name__").getD .none) c' ctv)) I HP
      (fun b o hb e => Heap.get?_push_of_some _ (kx b o hb e)) (Heap.get?_push_of_some _ tb2) hge ⟨oc, vs, t, Heap.get?_push_of_some _ hoc, hd, hv⟩
    have nF : F c' = none := (S.free nC).1
    have ex1 : Ext F (upd F c' (CodeO c' (X.env.qual ++ "<lambda>"))) := ext_upd nF
    have tl : (ps ++ #[rawInt pos.line, rawInt pos.col, .ref c']).toList = ps.toList ++ [rawInt pos.line, rawInt pos.col, .ref c'] := by simp
    have nPc : P ≠ c' := fun z => by rw [z, nC] at HP; cases HP
    have S1 : Sim X.K (upd F c' (CodeO c' (X.env.qual ++ "<lambda>"))) h (upd (upd H P (.tbl (ps ++ #[rawInt pos.line, rawInt pos.col, .ref c']))) c' (CodeO c' (X.env.qual ++ "<lambda>"))) := by
      refine ⟨fun a o q => ?_, fun a o q => ?_⟩
      · by_cases h1 : a = c'
        · subst h1; rw [upd_same] at q ⊢; exact q
        · rw [upd_ne h1] at q
          have h3 : a ≠ P := fun z => by rw [z, FP] at q; cases q
          rw [upd_ne h1, upd_ne h3]; exact S.fz _ _ q
      · obtain ⟨fa, w, hw, r⟩ := S.ob _ _ q
        have h1 : a ≠ c' := fun z => by rw [z, nC] at hw; cases hw
        refine ⟨by rw [upd_ne h1]; exact fa, ?_⟩
        by_cases h3 : a = P
        · subst h3
          obtain rfl := Option.some.inj (hP.symm.trans q)
          refine ⟨_, by rw [upd_ne h1, upd_same], _, rfl, by rw [tl]; exact PySem.TriplesOk_snoc _ _ _ _ tr, fun p2 cv2 hc2 => ?_⟩
          rw [tl] at hc2
          rcases among_app _ tr hc2 with z | z
          · obtain ⟨c0, e1, e2⟩ := am p2 cv2 z
            exact ⟨c0, e1, ex1 _ _ e2⟩
          · exact ⟨c', z, upd_same⟩
        · exact ⟨w, by rw [upd_ne h1, upd_ne h3]; exact hw, r.ext ex1⟩
    have n1 : h2.objs.size ≠ c' := Nat.ne_of_gt hlt
    have n2 : h2.objs.size ≠ P := Nat.ne_of_gt (Nat.lt_of_lt_of_le (Heap.lt_size atP) sz)
    exact go h2.objs.size c' ((X.mg "__name__").getD .none) ctv _ _ _ J ex1 S1 (Heap.get?_push_size _ rfl) (by rw [upd_ne n1, upd_ne n2]; exact I.hok.fresh sz) (outside _ sz) upd_same
end
/-! ### thunks -/
abbrev Thk := AH → KD → KX → Prop
/-- monotone -/
def MoK (tl : Thk) : Prop := ∀ h Q Q' X X', (∀ d h, Q d h → Q' d h) → (∀ x h, X x h → X' x h) → tl h Q X → tl h Q' X'
abbrev HSpec := Thk → AH → KD → KX → Prop
def MoH (HS : HSpec) : Prop := ∀ t, MoK t → ∀ h Q Q' X X', (∀ d h, Q d h → Q' d h) → (∀ x h, X x h → X' x h) → HS t h Q X → HS t h Q' X'
/-- a call of the thunk d that slot i holds -/
def wAct (i : Nat) (d : D) (tl : Thk) : WE := fun ρ h Q X => ρ[i]? = some (some d) ∧ tl h Q X
/-- in the body of a def that gets a thunk: it may be called in a try -/
def ActOk (X : Cx) (a : Str) (d : D) (tl : Thk) : Prop := ∀ (pn : List (Addr × Obj)) (xe : Value → Shared → Prop) (E' : XK) (p1 p2 : Pos), Takes (X.tr pn xe) (fun cls d _ H => E' cls d H) → AE (X.tr pn xe) E' (.Call (.Name a p1) [] [] p2) (wAct 0 d tl)
section
variable (P : Program) (w : World) (K : PySem.W.Frag) (mg : Str → Option Value) (base : Heap)
/-- a def of the module that gets a thunk -/
structure HCal (gz : Bool) (x : Str) (k : Nat) (HS : HSpec) : Prop where
  ex : ∃ (g : Addr) (fd : FuncData) (st : Stmt) (N : List Str) (a : Str) (W : D → Thk → WS), mg x = some (.ref g) ∧ L2.Fun K x x st g fd ∧ FnScope N [a] (defScope st) ∧ N[0]? = some a ∧ Vis (defScope st) a ∧ (a == ("__debug__" : Str)) = false ∧ (a == ("__classdict__" : Str)) = false ∧
    (∀ (s : Shared) (u : Value), BindsTo s fd ⟨[u], []⟩ [(a, u)]) ∧
    (∀ (d : D) (tl : Thk), MoK tl → ∀ (cdv : Value) (A : Around) (outer : List PySem.Env) (s : Shared) (H : Hp) (E : XK), Cg gz (cxOf (L2.CX P w) P w K mg base N x (defScope st) g cdv A outer s H E) E k →
      ActOk (cxOf (L2.CX P w) P w K mg base N x (defScope st) g cdv A outer s H E) a d tl → ASs (cxOf (L2.CX P w) P w K mg base N x (defScope st) g cdv A outer s H E) E (defBody st) (W d tl)) ∧
    ∀ d tl, MoK tl → ∀ h Q X, HS tl h Q X → W d tl (endsD Q X) (startD N.length [d]) h
  mo : MoH HS
end
/-- x(lambda: e): the table at P, the reading of e -/
def wHeard (HS : HSpec) (P : Addr) (q : Str) (we : WE) : WE := fun ρ h Q X => h P = some (.tab q) ∧ HS (we ρ) h Q X
section
variable {X : Cx} {E : XK} {gz gy : Bool} {k j : Nat} {x : Str} {HS : HSpec} {c P : Addr} {params : Arguments} {body : Expr} {scope : Scope} {p lpos pos : Pos} {we : WE}
/-- in the body of the lambda -/
theorem cg_lam (c : Cg gz X E k) {A : Around} {outer : List PySem.Env} {s : Shared} {H : Hp} {E' : XK} {f c' : Addr} {m : Nat} (hr : Room m (A.deeper (lamEnv X scope s.heap.objs.size f c'))) : Cg false (lamCx X A outer s H E' scope f c') E' m :=
  ⟨hr, fun z => Bool.noConfusion z, rfl, c.nd, passes_call (X := lamCx X A outer s H E' scope f c') (takes_of rfl rfl rfl rfl) (fun _ _ _ _ z => z), passes_of rfl⟩
theorem ae_heard (c : Cg gz X E k) (M : HCal X.prog X.w X.K X.mg X.base gy x j HS) (hz : gy = true → gz = true) {cc : Addr} (TB : TabB X.base X.mg cc P) (hcode : X.env.code = .ref cc) (hj : j + 1 ≤ k)
    (he : ∀ (A : Around) (outer : List PySem.Env) (s : Shared) (H : Hp) (E' : XK) (f c' : Addr), Cg false (lamCx X A outer s H E' scope f c') E' (k - 2) → AE (lamCx X A outer s H E' scope f c') E' body we)
    (L : LamS X.env.scope scope) (hk2 : 2 ≤ k) (hdef : defaultsOf params X.env = ([], []) := by rfl)
    (hbind : ∀ (q : Str) (cl : List (Str × Addr)) (pm cv ctv : Value), bindArgs (PySem.W.kla_fn "<lambda>" q params body scope cl pm cv ctv) ⟨[], []⟩ = pure [] := by intro _ _ _ _ _; rfl) (hg : Gl X x := by rfl)
    (hdb : (x == ("__debug__" : Str)) = false := by decide) :
    AE X E (.Call (.Name x p) [.Lambda params body scope lpos] [] pos) (wHeard HS P (X.env.qual ++ "<lambda>") we) := by
  obtain ⟨g, fd, st, N, a, W, hm, Fn, sc, hN0, hva, ha1, ha2, hb, bodyH, pureH⟩ := M.ex
  obtain ⟨oc, od, kV, doc, pm0, an, cdv, ct, osl, rfl, lk, hcd⟩ := Fn.ex
  have room1 : ∀ (e : PySem.Env), Room (k - 1) (X.A.deeper e) := fun e => (c.room.mono (j := k - 1 + 1) (by omega)).deeper e
  have room2 : ∀ (e e2 : PySem.Env), Room (k - 2) ((X.A.deeper e).deeper e2) := fun e e2 => ((room1 e).mono (j := k - 2 + 1) (by omega)).deeper e2
  have moE : MoE we := (he (X.A.deeper X.env) X.outer X.s_0 X.H_0 E 0 0 (cg_lam c (room2 _ _))).mo
  have moW : ∀ ρ, MoK (we ρ) := fun ρ h Q Q' X X' hQ hX z => moE _ _ _ _ _ _ hQ hX z
  refine ⟨⟨fun pins s σ H Q I hq => ?_⟩, fun ρ h0 Q Q' X X' hq hx q => ⟨q.1, M.mo _ (moW ρ) _ _ _ _ _ hq hx q.2⟩⟩
  obtain ⟨F, ρ, h, S, R, hP, q⟩ := hq
  refine wpAny_Call_Name_kw (ld_glob I hg hm ?_ hdb)
  refine PySem.W.callWith_K (h₀ := X.base) I.ok.mod.kin Fn.kp ?_ (by rfl) (by rfl)
  show wpAny _ _ (spliced ((false, eval (.Lambda params body scope lpos) X.env) :: backTo pos (starEach [] X.env))) _ _ s
  refine Calls.spliced_cons (lam_make3 I TB hcode S hP hdef (L.has I.ok) fun f c' pm ctv H1 F1 s1 I1 e1 S1 hf hfn hfr hco => Calls.spliced_nil ⟨I1.kIn, ?_⟩)
  have R1 := R.ext e1
  have rc : codeAny (model X.prog X.w) X.A (.call (.ref g) ⟨[.ref f], []⟩) (CR (L2.CX X.prog X.w) X.stack X.prog X.w H1 s1 Q E) s1 := by
    have inK : X.K.In s1.heap := I1.kIn
    refine codeAny_call_function c.room.depth (inK _ _ lk) rfl sc.co sc.gen rfl (PySem.W.codeRec_of inK hcd) (hb _ _ _ _ _ _ ?_)
    have kinds : ∀ y ∈ [(a, Value.ref f)], (defScope st).names.lookup y.1 = some .local ∨ ((defScope st).names.lookup y.1 = some .cell ∧ ((cellsFrom (s1.heap.objs.size + 1) (defScope st).names []).lookup y.1).isSome = true) := fun ⟨n, v⟩ hy => by
      have e : (n, v) = (a, Value.ref f) := by simpa using hy
      obtain ⟨rfl, rfl⟩ := Prod.mk.inj e
      cases sc.par n (by simp) with
      | inl q => exact .inl q
      | inr q => exact .inr ⟨q, PySem.W.cellsFrom_some _ _ _ (.inl q)⟩
    refine wpAny_newFunctionEnv_cells sc.kind kinds fun env hE s2 ic => ?_
    subst hE
    refine ⟨I1.nolimit.keeps ic.toInCall.keep, codeAny_func ?_⟩
    have I2 := inv_start (CX := L2.CX X.prog X.w) (P := X.prog) (w := X.w) (mg := X.mg) (base := X.base) (E := E) (vs := [V.ref f]) (us := [Value.ref f]) sc c.room.hd I1.env0 rfl (.cons rfl .nil) ic
    have cg : Cg gy (cxOf (L2.CX X.prog X.w) X.prog X.w X.K X.mg X.base N x (defScope st) g cdv X.A X.stack s1 H1 E) E j :=
      ⟨(room1 _).mono (by omega), fun z => c.gd (hz z), rfl, sc.nd, passes_call (takes_of rfl rfl rfl rfl) fun _ _ _ _ z => z, passes_of rfl⟩
    have act : ActOk (cxOf (L2.CX X.prog X.w) X.prog X.w X.K X.mg X.base N x (defScope st) g cdv X.A X.stack s1 H1 E) a (.lam f c' (X.env.qual ++ "<lambda>") ρ σ) (we ρ) := fun pn xe E' p1 p2 tk => by
      refine ⟨PE.imp (pe_act (i := 0) (k := k - 2) (tb := tE X.K E' we) I1 L hf hfn hfr (hbind _ _ _ _ _) tk (fun _ _ _ _ z => z) ((room1 _).mono (by omega)) (fun A outer s H r2 => (he A outer s H E' f c' (cg_lam c r2)).run) hN0 hva ha1 ha2) fun σZ HZ Q hq => ?_, fun ρ1 h1 Q Q' X X' hQ hX z => ⟨z.1, moE _ _ _ _ _ _ hQ hX z.2⟩⟩
      obtain ⟨F3, ρz, h3, S3, R3, hd, q3⟩ := hq
      obtain ⟨v, hv, rep⟩ := R3.2 0 _ hd
      cases rep with
      | lam hc re => exact ⟨hv, S3.fz _ _ hc, F3, ρ, h3, S3, re.env, q3⟩
    have B := bodyH (.lam f c' (X.env.qual ++ "<lambda>") ρ σ) (we ρ) (fun h Q Q' X X' hQ hX z => moE _ _ _ _ _ _ hQ hX z) cdv X.A X.stack s1 H1 E cg act
    have go : tS X.K E (W (.lam f c' (X.env.qual ++ "<lambda>") ρ σ) (we ρ)) { nx := fun _ H' => Q .non H', rt := Q } (L2.start N [.ref f]) H1 := by
      refine ⟨F1, _, h, S1, start_env (ds := [.lam f c' (X.env.qual ++ "<lambda>") ρ σ]) (.cons (.lam hco R1.rep) .nil), B.mo (endsD (LQ X.K F1 Q) (LX X.K F1 E)) _ _ _ ⟨fun ρ h z => ?_, fun d h z => LQ.fin z, fun _ _ z => False.elim z, fun _ _ z => False.elim z, fun _ _ z => z⟩ (pureH _ (we ρ) (moW ρ) h _ _ (M.mo _ (moW ρ) _ _ _ _ _ (fun d h z => LQ.ext e1 z) (fun x h z => LX.ext e1 z) q))⟩
      exact fun F' H' σ' e S' _ => LQ.fin z F' H' .non e S' .non
    refine wpAny_mono (B.run.run [] s2 _ H1 _ I2 go) (fun fl s' hq => ?_) fun e s' hq => hq
    cases fl with
    | ret u =>
      obtain ⟨v, σ', H', J, rv, q⟩ := hq
      exact ⟨v, H', J.os, J.bare, J.base, J.hok, rv, q⟩
    | next =>
      obtain ⟨σ', H', J, q⟩ := hq
      exact ⟨.non, H', J.os, J.bare, J.base, J.hok, rfl, q⟩
    | brk => obtain ⟨_, _, _, q⟩ := hq; exact q.elim
    | cont => obtain ⟨_, _, _, q⟩ := hq; exact q.elim
  refine wpAny_call (codeAny_mono rc fun r s3 hq => ?_)
  match r, hq with
  | .error e, hq => exact c.ps pins σ H1 s1 e s3 I1 hq
  | .ok (.ret u), hq => exact I1.after hq
  | .ok .next, hq => exact hq.elim
  | .ok .brk, hq => exact hq.elim
  | .ok .cont, hq => exact hq.elim
end
end DL
/-! the end of a law that makes lambdas; defs that make lambdas -/
namespace DL
open PySem PySem.Spec L2 C8 PyProof.Rows LamX
/-- a def whose code object is known -/
structure FunC (K : PySem.W.Frag) (x qual : Str) (st : Stmt) (f : Addr) (fd : FuncData) (cc : Addr) : Prop where
  ex : ∃ (oc : Value) (od : Option Addr) (kV doc pm : Value) (an : Option Addr) (ct : Value) (osl : Array (Option Value)),
    fd = PySem.W.fnOf x qual (defArgs st) (defBody st) (defScope st) .none kV doc pm an (.ref cc) ct ∧ K.lookup f = some ⟨oc, od, .func fd, osl⟩ ∧ PySem.W.codeIn K (.ref cc) qual = true
theorem FunC.of {K : PySem.W.Frag} {x qual : Str} {st : Stmt} {f : Addr} {fd : FuncData} {cc : Addr} (F : L2.Fun K x qual st f fd) (h : fd.code = .ref cc) : FunC K x qual st f fd cc := by
  obtain ⟨oc, od, kV, doc, pm, an, cdv, ct, osl, rfl, lk, hcd⟩ := F.ex
  have e : cdv = .ref cc := h
  subst e
  exact ⟨oc, od, kV, doc, pm, an, ct, osl, rfl, lk, hcd⟩
/-- the code object and the table of a def of the module -/
theorem tabIn_of {K : PySem.W.Frag} {x : Str} {f cc P : Addr} {oc kc : Value} {od kd : Option Addr} {fd : FuncData} {osl ks : Array (Option Value)} {vs : Array Value} (hn : PySem.W.nsIn K mainGlobals x = some (some (.ref f))) (hf : K.lookup f = some ⟨oc, od, .func fd, osl⟩) (hc : fd.code = .ref cc)
    (hk : K.lookup cc = some ⟨kc, kd, .fields vs, ks⟩) (hv : vs[11]? = some (.ref P)) : PySem.W.tabIn K x = some (cc, P) := by
  unfold PySem.W.tabIn
  simp only [hn, hf, hc, hk, hv]
/-- three classes in an except clause -/
theorem exm3_of {K : PySem.W.Frag} {cls : Value} {C1 C2 C3 : Addr} {b1 b2 b3 : Bool} (h1 : PySem.W.exmOne K cls (.ref C1) = some b1) (h2 : PySem.W.exmOne K cls (.ref C2) = some b2) (h3 : PySem.W.exmOne K cls (.ref C3) = some b3) (hb : (b1 || (b2 || (b3 || false))) = true) :
    PySem.W.exmAny K cls [.ref C1, .ref C2, .ref C3] = some true := by
  simp only [PySem.W.exmAny, h1, h2, h3, hb]
section
variable {P : Program} {w : World} {K : PySem.W.Frag} {mg : Str → Option Value} {base : Heap}
/-- THE RULE for a def whose code object is known -/
theorem fng_ofC {gz : Bool} {x qual : Str} {st : Stmt} {f cc : Addr} {fd : FuncData} {N ps : List Str} {k : Nat} {S : FSpec} {W : WS}
    (F : FunC K x qual st f fd cc) (sc : FnScope N ps (defScope st)) (len : ∀ ds h Q X, S ds h Q X → ds.length = ps.length) (mo : MoF S)
    (body : ∀ (A : Around) (outer : List PySem.Env) (s : Shared) (H : Hp) (E : XK), Cg gz (cxOf (L2.CX P w) P w K mg base N qual (defScope st) f (.ref cc) A outer s H E) E k →
      ASs (cxOf (L2.CX P w) P w K mg base N qual (defScope st) f (.ref cc) A outer s H E) E (defBody st) W)
    (pure : ∀ ds h Q X, S ds h Q X → W (endsD Q X) (startD N.length ds) h) : FnG gz P w K mg base (k + 1) f fd ps S := by
  refine ⟨len, mo, fun {A outer s H args us vs Q E} hr hg e0 hb hv hs => ?_⟩
  obtain ⟨oc, od, kV, doc, pm, an, ct, osl, rfl, lk, hcd⟩ := F.ex
  have lenv := spD_len len hs
  have inK : K.In s.heap := e0.mod.kin.keeps fun b o e => (e0.bs b o e).1
  have nol : s.heap.NoLimit := e0.mod.nolimit.keeps fun b o e => (e0.bs b o e).1
  have kinds : ∀ y ∈ ps.zip us, (defScope st).names.lookup y.1 = some .local ∨ ((defScope st).names.lookup y.1 = some .cell ∧ ((cellsFrom (s.heap.objs.size + 1) (defScope st).names []).lookup y.1).isSome = true) := by
    rintro ⟨n, v⟩ hy
    rcases sc.par n (List.of_mem_zip hy).1 with q | q
    · exact .inl q
    · exact .inr ⟨q, PySem.W.cellsFrom_some _ _ _ (.inl q)⟩
  refine codeAny_call_function hr.depth (inK _ _ lk) rfl sc.co sc.gen rfl (PySem.W.codeRec_of inK hcd) (hb _ _ _ _ (wpAny_newFunctionEnv_cells sc.kind kinds fun env he s1 ic => ?_))
  subst he
  refine ⟨nol.keeps ic.toInCall.keep, codeAny_func ?_⟩
  have I := inv_start (CX := L2.CX P w) (P := P) (w := w) (mg := mg) (base := base) (E := E) sc hr.hd e0 lenv hv ic
  have c : Cg gz (cxOf (L2.CX P w) P w K mg base N qual (defScope st) f (.ref cc) A outer s H E) E k := ⟨hr.deeper _, hg, rfl, sc.nd, passes_call (takes_of rfl rfl rfl rfl) fun _ _ _ _ z => z, passes_of rfl⟩
  obtain ⟨F0, ds, g, S0, r0, q0⟩ := hs
  have B := body A outer s H E c
  have go : tS K E W { nx := fun _ H' => Q .non H', rt := Q } (L2.start N vs) H :=
    ⟨F0, _, g, S0, start_env r0, B.mo (endsD (LQ K F0 Q) (LX K F0 E)) _ _ _ ⟨fun ρ h z F' H' σ' e S' _ => LQ.fin z F' H' .non e S' .non, fun d h z => LQ.fin z, fun _ _ z => False.elim z, fun _ _ z => False.elim z, fun _ _ z => z⟩ (pure ds g _ _ q0)⟩
  refine wpAny_mono (B.run.run [] s1 _ H _ I go) (fun fl s' hq => ?_) fun e s' hq => hq
  cases fl with
  | ret u =>
    obtain ⟨v, σ', H', J, rv, q⟩ := hq
    exact ⟨v, H', J.os, J.bare, J.base, J.hok, rv, q⟩
  | next =>
    obtain ⟨σ', H', J, q⟩ := hq
    exact ⟨.non, H', J.os, J.bare, J.base, J.hok, rfl, q⟩
  | brk => obtain ⟨_, _, _, q⟩ := hq; exact q.elim
  | cont => obtain ⟨_, _, _, q⟩ := hq; exact q.elim
end
/-- what is known of the law at the head's heap: T tells the tables: code object, table, the lambdas' name -/
structure LawT (gz : Bool) (l : PySem.W.OpenLaw) (w : World) (K : PySem.W.Frag) (k n : Nat) (x : Str) (mg : Str → Option Value) (fa : Addr) (names : List Str) : Prop where
  ex : ∃ (fd : FuncData) (S : FSpec) (T : List (Str × Addr × Addr × Str)), (∀ (s : Shared) (u : Value), BindsTo s fd ⟨[u], []⟩ [(x, u)]) ∧ (∀ p ∈ T, p.1 ∈ names ∧ PySem.W.tabIn K p.1 = some (p.2.1, p.2.2.1) ∧ K.lookup p.2.2.1 = none) ∧
    (∀ (js : List Int) (h : AH), js.length ≤ n → (∀ p ∈ T, h p.2.2.1 = some (.tab p.2.2.2)) → S [.lk (js.map D.int)] h (fun d _ => d = .bl true) (fun _ _ => False)) ∧ (T.map (·.2.2.1)).Nodup ∧
    ∀ base : Heap, K.In base → base.Ns mainGlobals mg → (∀ p ∈ T, TabB base mg p.2.1 p.2.2.1) → FnG gz l.prog w K mg base k fa fd [x] S
section
variable {P : Program} {w : World} {K : PySem.W.Frag} {mg bm : Str → Option Value} {k : Nat} {fa q : Addr} {fd : FuncData} {x : Str} {S : FSpec} {t : Shared} {us : List Value} {js : List Int} {T : List (Str × Addr × Addr × Str)}
theorem tabs_at {ob : Addr → Option AO} : ∀ {T : List (Str × Addr × Addr × Str)}, (T.map (·.2.2.1)).Nodup → ∃ h : AH, (∀ p ∈ T, h p.2.2.1 = some (.tab p.2.2.2)) ∧ ∀ b o, h b = some o → ∃ p ∈ T, b = p.2.2.1 ∧ o = .tab p.2.2.2
  | [], _ => ⟨fun _ => none, ⟨fun p hp => (nomatch hp), fun b o e => (nomatch e)⟩⟩
  | p :: T, nd => by
    rw [List.map_cons, List.nodup_cons] at nd
    obtain ⟨h, h1, h2⟩ := tabs_at (ob := ob) nd.2
    refine ⟨up h p.2.2.1 (.tab p.2.2.2), fun p' hp' => ?_, fun b o e => ?_⟩
    · rcases List.mem_cons.mp hp' with rfl | hp'
      · exact up_same
      · rw [up_ne (fun z => nd.1 (by rw [← z]; exact List.mem_map.mpr ⟨p', hp', rfl⟩))]; exact h1 _ hp'
    · by_cases c : b = p.2.2.1
      · subst c
        rw [up_same] at e
        obtain rfl := Option.some.inj e
        exact ⟨p, List.mem_cons_self, rfl, rfl⟩
      · rw [up_ne c] at e
        obtain ⟨p', hp', z⟩ := h2 b o e
        exact ⟨p', List.mem_cons_of_mem _ hp', z⟩
theorem dl_callT (KX : K.In t.heap) (n1 : t.heap.Ns mainGlobals mg) (n2 : t.heap.Ns builtinsNs bm) (bb : ∀ y : Str, y ≠ "__name__" → bm y = bootBuiltins y) (nl : t.heap.NoLimit) (ng : t.gens = #[])
    (hT : ∀ p ∈ T, t.heap.get? p.2.2.1 = some { cls := .none, data := .fields #[] }) (nT : ∀ p ∈ T, K.lookup p.2.2.1 = none) (hC : ∀ p ∈ T, PySem.W.CodeHd t.heap p.2.1 p.2.2.1) (nd : (T.map (·.2.2.1)).Nodup)
    (hbm : ∃ (bm : Addr) (ob : Obj), mg "__builtins__" = some (.ref bm) ∧ bm ≠ builtinsNs ∧ t.heap.get? bm = some ob ∧ ob.cls = .type "module" ∧ ob.dict = some builtinsNs ∧ ob.data = .plain)
    (hq : t.heap.get? q = some { cls := .type "list", data := .seq us.toArray }) (ia : IntsAre us js) (lj : js.length ≤ sizeLine) (rm : Room k callerA)
    (G : ∀ base : Heap, K.In base → base.Ns mainGlobals mg → (∀ p ∈ T, TabB base mg p.2.1 p.2.2.1) → FnG gz P w K mg base k fa fd [x] S) (hb : ∀ (s : Shared) (u : Value), BindsTo s fd ⟨[u], []⟩ [(x, u)])
    (hS : ∀ h : AH, (∀ p ∈ T, h p.2.2.1 = some (.tab p.2.2.2)) → S [.lk (js.map D.int)] h (fun d _ => d = .bl true) (fun _ _ => False)) :
    codeAny (model P w) callerA (.call (.ref fa) ⟨[.ref q], []⟩) (fun r s' => r = .ok (.ret (.bool true)) ∧ OldK t.heap s'.heap ∧ s'.os = t.os ∧ AllBare s'.gens) t := by
  obtain ⟨H, B⟩ := beg_of (P := P) (w := w) KX hq ia lj
  obtain ⟨h0, t1, t2⟩ := tabs_at (ob := fun _ => none) nd
  have isT : ∀ b o, h0 b = some o → t.heap.get? b = some { cls := .none, data := .fields #[] } := fun b o e => by
    obtain ⟨p, hp, rfl, _⟩ := t2 b o e
    exact hT p hp
  have qT : h0 q = none := by
    cases e : h0 q with
    | none => rfl
    | some o =>
      have z := (isT q o e).symm.trans hq
      have z2 : Data.fields #[] = Data.seq us.toArray _ := congrArg Obj.data (Option.some.inj z)
      cases z2
  have HnT : ∀ b o, h0 b = some o → H b = none := fun b o e => by
    by_cases z : H b = none
    · exact z
    · obtain rfl := B.at_ b z
      rw [qT] at e; cases e
  have G0 : ∃ H2 : Hp, (∀ b o, h0 b = some o → H2 b = some (.tbl #[])) ∧ ∀ b, h0 b = none → H2 b = H b := by
    refine ⟨fun b => match h0 b with | some _ => some (.tbl #[]) | none => H b, fun b o e => ?_, fun b e => ?_⟩
    · show (match h0 b with | some _ => some (HO.tbl #[]) | none => H b) = _
      rw [e]
    · show (match h0 b with | some _ => some (HO.tbl #[]) | none => H b) = _
      rw [e]
  obtain ⟨H2, k1, k2⟩ := G0
  have fromH : ∀ b u, H b = some u → H2 b = some u := fun b u e => by
    have z : h0 b = none := by
      cases y : h0 b with
      | none => rfl
      | some o => rw [HnT b o y] at e; cases e
    rw [k2 b z]; exact e
  have ok2 : HOk P w H2 t.heap := fun b u e => by
    cases y : h0 b with
    | some o =>
      obtain rfl := Option.some.inj ((k1 b o y).symm.trans e)
      exact isT b o y
    | none =>
      rw [k2 b y] at e
      exact (B.ok b u e).stay (fun c v _ z => z) (fun c z => fromH _ _ z) fun c xs z => fromH _ _ z
  have low : ∀ {b : Addr} {ob : Obj}, t.heap.get? b = some ob → H2 b = none → (hidT t.heap H2).get? b = some ob := fun e z => hidT_get e z
  have noD : ∀ {b : Addr} {ob : Obj}, t.heap.get? b = some ob → (∀ v n, ob.data ≠ .seq v n) → ob.data ≠ .fields #[] → H2 b = none := by
    intro b ob e d1 d2
    cases y : h0 b with
    | some o =>
      obtain rfl := Option.some.inj ((isT b o y).symm.trans e)
      exact absurd rfl d2
    | none =>
      rw [k2 b y]
      by_cases z : H b = none
      · exact z
      · obtain rfl := B.at_ b z
        obtain rfl := Option.some.inj (hq.symm.trans e)
        exact absurd rfl (d1 _ _)
  have ns : ∀ {b : Addr} {m : Str → Option Value}, t.heap.Ns b m → (hidT t.heap H2).Ns b m := fun ⟨ob, es, ep, e, d, r⟩ => ⟨ob, es, ep, low e (noD e (fun v n z => by rw [d] at z; cases z) (fun z => by rw [d] at z; cases z)), d, r⟩
  have hK : K.In (hidT t.heap H2) := fun b ob e => low (KX b ob e) (by
    cases y : h0 b with
    | some o =>
      obtain ⟨p, hp, rfl, _⟩ := t2 b o y
      rw [nT p hp] at e; cases e
    | none =>
      rw [k2 b y]
      by_cases z : H b = none
      · exact z
      · obtain rfl := B.at_ b z
        rw [B.out z] at e; cases e)
  have M : Mod K mg (hidT t.heap H2) := by
    obtain ⟨mc, l1, l2⟩ := nl
    exact ⟨hK, ns n1, ⟨bm, ns n2, bb⟩, mc, ns l1, l2⟩
  have TB : ∀ p ∈ T, TabB (hidT t.heap H2) mg p.2.1 p.2.2.1 := fun p hp => by
    have hTp := hT p hp
    refine ⟨?_, ?_, fun z => ?_⟩
    · obtain ⟨o, vs, file, tf, flags, tg, inF, text, tt, e1, r1, r2, r3, r4, r5, r6, r7, r8, r9⟩ := hC p hp
      exact ⟨o, vs, file, tf, flags, tg, inF, text, tt, low e1 (noD e1 (fun v n z => by rw [r2] at z; cases z) (fun z => by rw [r2] at z; cases z; simp at r3)), r1, r2, r3, r4, r5, r6, r7, r8, r9⟩
    · obtain ⟨bm, ob, b1, b2, b3, b4, b5, b6⟩ := hbm
      refine ⟨bm, ob, b1, b2, fun z => ?_, fun z => ?_, low b3 (noD b3 (fun v n z => by rw [b6] at z; cases z) (fun z => by rw [b6] at z; cases z)), b4, b5, b6⟩
      · obtain ⟨o, es, ep, e, hd, _⟩ := n1
        rw [z, e] at b3
        obtain rfl := Option.some.inj b3
        rw [hd] at b6; cases b6
      · rw [z, hTp] at b3
        obtain rfl := Option.some.inj b3
        cases b6
    · obtain ⟨o, es, ep, e, hd, _⟩ := n1
      rw [z, hTp] at e
      obtain rfl := Option.some.inj e
      cases hd
  have none_in : ∀ {b : Addr}, b ∉ ([] : List Addr) := fun h => by cases h
  have e0 : Env0 P w K mg (hidT t.heap H2) callerA [] t H2 := ⟨rfl, M, fun b ob e => of_hidT e, Nat.le_of_eq (hidT_size _ _), trivial, fun b h => absurd h none_in, ok2, .of_eq ng⟩
  have FG := G _ hK (ns n1) TB
  have sp : spD K S [.ref q] H2 (fun v _ => v = .bl true) (fun _ _ _ => False) := by
    refine ⟨H, _, h0, ⟨fun a o e => fromH a o e, fun b o e => ⟨HnT b o e, _, k1 b o e, ?_⟩⟩, .cons (.lk B.sq ?_) .nil, FG.mo _ _ _ _ _ _ (fun d h e => ?_) (fun _ _ z => z.elim) (hS h0 t1)⟩
    · obtain ⟨p, hp, rfl, rfl⟩ := t2 b o e
      exact ⟨#[], rfl, True.intro, fun pos cv z => by simp [codeAmong] at z⟩
    · clear hS hq ia lj B e0 t1 t2 isT qT HnT fromH ok2
      induction js with
      | nil => exact .nil
      | cons j js ih => exact .cons (.int j) ih
    · intro F' H' v _ _ r
      subst e
      cases r; rfl
  refine codeAny_mono (FG.run (args := ⟨[.ref q], []⟩) (us := [.ref q]) (vs := [.ref q]) rm (fun _ => rfl) e0 (hb t (.ref q)) (.cons rfl .nil) sp) fun r s' h => ?_
  match r, h with
  | .error e, h => obtain ⟨_, _, _, _, _, _, _, _, _, _, _, _, h⟩ := h; exact h.elim
  | .ok .next, h => exact h.elim
  | .ok .brk, h => exact h.elim
  | .ok .cont, h => exact h.elim
  | .ok (.ret u), h =>
    obtain ⟨v, H3, os, bare, un, ok3, r2, e⟩ := h
    have e : v = .bl true := e
    subst e
    obtain rfl : u = Value.bool true := r2
    have grown : ∀ b o, h0 b = some o → ∃ more : Array Value, s'.heap.get? b = some { cls := .none, data := .fields more } := fun b o y => by
      obtain ⟨more, z⟩ := un.tbls b #[] (k1 b o y)
      exact ⟨_, ok3 b _ z⟩
    have rest : ∀ b ob, h0 b = none → t.heap.get? b = some ob → s'.heap.get? b = some ob := fun b ob y e => by
      rcases B.fz b with z | ⟨o2, ys, z⟩
      · exact un.keep b ob e (by rw [k2 b y]; exact z) none_in (by simp)
      · have d1 := (B.ok b _ z).1
        have d2 := (ok3 b _ (un.frzs b o2 _ (fromH _ _ z))).1
        rw [d1] at e
        obtain rfl := Option.some.inj e
        exact d2
    refine ⟨rfl, ⟨fun b o e => ?_, fun b o e => ?_⟩, os, bare⟩
    · cases y : h0 b with
      | none => exact .inl (rest b o y e)
      | some u =>
        obtain ⟨more, hm⟩ := grown b u y
        obtain ⟨p, hp, rfl, _⟩ := t2 b u y
        have e2 := hT p hp
        rw [e] at e2
        obtain rfl := Option.some.inj e2
        exact .inr (.inl ⟨((hC p hp).tab (hT p hp)).isCodeTable, rfl, #[], more, rfl, by rw [Array.empty_append]; exact hm⟩)
    · cases y : h0 b with
      | none => exact ⟨o, rest b o y e⟩
      | some u =>
        obtain ⟨more, hm⟩ := grown b u y
        exact ⟨_, hm⟩
end
end DL
namespace Hx
open PySem PySem.Spec PyProof.Rows L2 DL
/-- .. where defs make lambdas -/
theorem walkXT {gz : Bool} {l : PySem.W.OpenLaw} {n k : Nat} {p : Program} {loose : List Str} {XP : (Str → Option Value) → Heap → Prop} {YP : World → Heap → Prop} {d : DefRec} {x : Str} {names : List Str}
    (hn : l.most = some n) (hz : n ≤ sizeLine) (hd : d.params.defaults = []) (rm : Room k callerA) (hr : (names.all fun x => ((recsOf p).find? fun e => e.name == x).isSome) = true)
    (G : ∀ (w : World) (mg : Str → Option Value) (fa : Addr) (h : Heap), YP w h → h.Ns mainGlobals mg → mg d.name = some (.ref fa) → ∃ K : Fr, K.In h ∧ LawT gz l w K k n x mg fa names) :
    PySem.W.WalkO p loose XP YP l.row.toRowW d [] (fun f vs => PySem.call f vs) := by
  refine Att.attach_call hn hd fun w t0 t mg bm fa ob pm cd doc q us js Gr Y ho hdat hcd hmg hq ia lj ng => ?_
  obtain ⟨K, KX, L⟩ := G w mg fa _ Y Gr.T.g hmg
  obtain ⟨fd, S, T, hb, hT, hS, nd, hF⟩ := L.ex
  have tabs : ∀ p' ∈ T, PySem.W.CodeHd t.heap p'.2.1 p'.2.2.1 ∧ t.heap.get? p'.2.2.1 = some { cls := .none, data := .fields #[] } := fun p' hp => by
    obtain ⟨m, ht, _⟩ := hT p' hp
    obtain ⟨dr, hdr⟩ := Option.isSome_iff_exists.mp (List.all_eq_true.mp hr _ m)
    exact PySem.W.tab_of Gr.T KX hdr ht
  exact dl_callT KX Gr.T.g Gr.T.b Gr.T.builtins Gr.T.nolimit ng (fun p hp => (tabs p hp).2) (fun p hp => (hT p hp).2.2) (fun p hp => (tabs p hp).1) nd Gr.T.bmain hq ia (Nat.le_trans lj hz) rm hF hb (fun h hh => hS js h lj hh)
end Hx
namespace Hx
open PySem PySem.Spec PyProof.Rows L2 DL HandSHeadRun
/-- a look at the end of the run for the facts alone -/
def RunO (r : PySem.W.OpenRow) (q : Program) (H : PySem.W.Hook) (ob : PySem.W.SharedT → H.α) (M : Nat) (w : World) : Prop :=
  ∀ os : OsState, (endF (stepQ (denQ tabQ) r.prog w) M r.prog w os).map ob = some (H.val w)
theorem runO_join {r : PySem.W.OpenRow} {q : Program} {N : Nat} {no : List Addr} {t1 t2 : List (List (Fr → Bool))} {fn : List FnX} {M : Nat} {w : World}
    (h1 : RunO r q (hookX N no t1 []) (obT N no t1 []) M w) (h2 : RunO r q (hookX N no t2 fn) (obT N no t2 fn) M w) : RunO r q (hookX N no (t1 ++ t2) fn) (obT N no (t1 ++ t2) fn) M w := by
  intro os
  have a := h1 os
  have b := h2 os
  revert a b
  generalize endF _ _ _ _ _ = e
  cases e with
  | none => intro a; cases a
  | some s =>
    intro a b
    have a3 := Option.some.inj a
    have b3 := Option.some.inj b
    refine congrArg some ?_
    clear a b
    revert a3 b3
    unfold obT obX
    generalize frX N no (getT s) = K
    intro a3 b3
    have a4 := congrArg Prod.fst a3
    have b4 := congrArg Prod.fst b3
    have b5 := congrArg Prod.snd b3
    dsimp only at a4 b4 b5 ⊢
    rw [List.all_append, a4, b4, b5]
    rfl
theorem run_base {r : PySem.W.OpenRow} {q : Program} {N : Nat} {no : List Addr} {t : List (List (Fr → Bool))} {fn : List FnX} {M : Nat} {loose : List PySem.Str} {w : World}
    (hb : RunEq r q (hookX N no [] []) (obT N no [] []) M loose w) (h : RunO r q (hookX N no t fn) (obT N no t fn) M w) : RunEq r q (hookX N no t fn) (obT N no t fn) M loose w := by
  intro os
  have a := hb os
  have b := h os
  revert a b
  generalize endF _ _ _ _ _ = e
  cases e with
  | none => intro a; cases a
  | some s =>
    intro a b
    have a := Option.some.inj a
    have b := Option.some.inj b
    have a1 := congrArg (fun x => x.1) a
    have a2 := congrArg (fun x => x.2.1) a
    dsimp only at a1 a2
    exact congrArg some (Prod.ext a1 (Prod.ext a2 b))
end Hx
namespace DL
open PySem PySem.Spec L2 C8
section
variable {X : Cx} {E : XK} {k : Nat} {a b c e : Expr} {wa wb wc : WE} {pos : Pos} {op op' : CmpOp} {r r' : R2} {f g : D → D → AH → KD → Prop}
theorem to_chain (ok : OpD X.K r f) (ok' : OpD X.K r' g) (ha : AE X E a wa) (hb : AE X E b wb) (hc : AE X E c wc) {σ : L2.St} {H : Hp} {Q : VK} (h : tE X.K E (wChain f g wa wb wc) σ H Q) : tChain r r' (tE X.K E wa) (tE X.K E wb) (tE X.K E wc) σ H Q := by
  obtain ⟨F, ρ, g0, S, R, q⟩ := h
  refine ⟨F, ρ, g0, S, R, ha.mo _ _ _ _ _ _ (fun x h1 hx => ?_) (fun _ _ z => z) q⟩
  intro F1 H1 vx e1 S1 rx
  refine ⟨F1, ρ, h1, S1, R.ext e1, hb.mo _ _ _ _ _ _ (fun y h2 hf => ?_) (fun _ _ z => LX.ext e1 z) hx⟩
  intro F2 H2 vy e2 S2 ry
  refine ok.to S2 (rx.ext e2) ry (ok.mo (fun z h3 hz => ?_) hf)
  intro F3 H3 v3 e3 S3 r3
  split at hz
  · rename_i kk
    cases r3
    refine ⟨kk, rfl, ?_⟩
    split at hz
    · rename_i ck
      rw [if_pos ck]
      refine ⟨F3, ρ, h3, S3, R.ext (e1.trans (e2.trans e3)), hc.mo _ _ _ _ _ _ (fun u h4 hg => ?_) (fun _ _ z => LX.ext (e1.trans (e2.trans e3)) z) hz⟩
      intro F4 H4 vu e4 S4 ru
      exact ok'.to S4 (ry.ext (e3.trans e4)) ru (ok'.mo (fun _ _ z => LQ.ext (e1.trans (e2.trans (e3.trans e4))) z) hg)
    · rename_i ck
      rw [if_neg ck]
      exact hz F3 H3 _ (e1.trans (e2.trans e3)) S3 (.bl _)
  · exact hz.elim
theorem ae_chain2 (ok : OpD X.K r f) (ok' : OpD X.K r' g) (ho : OpR X (compareOp op) r) (ho' : OpR X (compareOp op') r') (ha : AE X E a wa) (hb : AE X E b wb) (hc : AE X E c wc)
    (hm : lastMarks [op, op'] [b, c] = false := by with_unfolding_all rfl) : AE X E (.Compare a [op, op'] [b, c] pos) (wChain f g wa wb wc) :=
  ⟨PE.imp (pe_chain ho ho' ha.run hb.run hc.run hm) fun σ H Q h => to_chain ok ok' ha hb hc h, mo_chain ok.mo ok'.mo ha.mo hb.mo hc.mo⟩
end
/-! ### the built-in names -/
theorem bb_len : bootBuiltins "len" = some (.builtin "len") := by decide +kernel
theorem bb_abs : bootBuiltins "abs" = some (.builtin "abs") := by decide +kernel
theorem bb_max : bootBuiltins "max" = some (.builtin "max") := by decide +kernel
theorem bb_min : bootBuiltins "min" = some (.builtin "min") := by decide +kernel
theorem bb_isinstance : bootBuiltins "isinstance" = some (.builtin "isinstance") := by decide +kernel
theorem bb_int : bootBuiltins "int" = some (.type "int") := by decide +kernel
theorem bb_bool : bootBuiltins "bool" = some (.type "bool") := by decide +kernel
theorem bb_str : bootBuiltins "str" = some (.type "str") := by decide +kernel
theorem bb_list : bootBuiltins "list" = some (.type "list") := by decide +kernel
theorem bb_tuple : bootBuiltins "tuple" = some (.type "tuple") := by decide +kernel
/-- a name of the module that holds an int -/
theorem cst_int {K : PySem.W.Frag} {mg : Str → Option Value} {x : Str} {i : Int} {t : Tok} (h : mg x = some (.int i t)) : Cst K mg x (.int i) := ⟨⟨.int i, _, h, ⟨t, rfl⟩, fun _ => .int i⟩⟩
theorem cst_str {K : PySem.W.Frag} {mg : Str → Option Value} {x i : Str} {t : Tok} (h : mg x = some (.str i t)) : Cst K mg x (.str i) := ⟨⟨.str i, _, h, ⟨t, rfl⟩, fun _ => .str i⟩⟩
end DL
namespace PySem.W
open PySem PySem.Spec PySem.Calls PyProof.Rows
section
variable {prog : Program} {w : World} {A : Around} {E : Value → Shared → Prop} {s : Shared} {env : Env} {elts : List Expr} {k : Nat} {pos : Pos}
theorem dstar_items {l : Addr} {items : Array Value} {n i : Nat} {Q : List Value → Shared → Prop} (hl : IsTup s.heap l items) (hh : A.handled = none) (hi : i < n) (hn : n ≤ items.size + 1) (hz : items.size ≤ 16384)
    (h : ∀ (h2 : Heap) (tk : Nat), (∀ b o, s.heap.get? b = some o → h2.get? b = some o) → Q (items.toList.take i ++ [.ref h2.objs.size] ++ (items.toList.drop i).drop (items.size + 1 - n)) { s with heap := h2.push { cls := .type "list", data := .seq ((items.toList.drop i).take (items.size + 1 - n)).toArray }, toks := tk }) : wpAny (model prog w) A (unpackItems (.ref l) n (some i)) Q E s := by
  have hlt : l ≠ s.heap.objs.size := by obtain ⟨o, ho, _⟩ := hl; exact Nat.ne_of_lt (Heap.lt_size ho)
  have hll : l < s.heap.objs.size := by obtain ⟨o, ho, _⟩ := hl; exact Heap.lt_size ho
  unfold unpackItems
  refine wpAny_bind ?_
  unfold notIterableAtAll
  refine wpAny_bind (wpAny_specialOf hl.typeIs slot_tuple_iter.lookup ?_)
  refine wpAny_pure ?_
  simp only [Bool.false_eq_true, if_false]
  refine wpAny_bind (wpAny_holding (iter_tuple hl ?_))
  refine wpAny_bind (wpAny_holding (draw_tuple hlt i 0 _ _ ⟨_, Heap.get?_push_size _ rfl, rfl, rfl⟩ (hl.push _) (by omega) fun h₁ hit₁ hs₁ => ?_))
  have hl₁ : IsTup h₁ l items := (hl.push _).extBut hs₁.extBut hlt
  rw [Nat.zero_add] at hit₁
  have hit₁' := hit₁
  obtain ⟨oi, hoi, _⟩ := hit₁'
  have hl₁' := hl₁
  obtain ⟨ol, hol, _⟩ := hl₁'
  rw [List.drop_zero]
  have hfl : (items.toList.take i).length = i := by rw [List.length_take, Array.length_toList]; omega
  rw [if_neg (show ¬ ((items.toList.take i).length < i) by rw [hfl]; omega)]
  refine wpAny_bind (wpAny_holding (kun_collect (s := { s with heap := h₁ }) (T := "tuple_iterator") (.inr (.inr (.inr rfl))) (Walks.tuple (A := A.in1) hh s.heap.objs.size l hlt items) (fun j u st => st.1.typeIs) (k := i) (by omega) ⟨hit₁, hl₁⟩ (Heap.lt_size hoi) (Heap.lt_size hol) (fun h₂ tk hk => ?_) (by rw [sizeLine_eq]; omega)))
  have hrl : (items.toList.drop i).length = items.size - i := by rw [List.length_drop, Array.length_toList]
  have hmid : (items.toList.drop i).length - (n - 1 - i) = items.size + 1 - n := by rw [hrl]; omega
  show wpAny _ _ (if (items.toList.drop i).length < n - 1 - i then _ else _) _ _ _
  rw [if_neg (by rw [hrl]; omega)]
  show wpAny _ _ (newList ((items.toList.drop i).take ((items.toList.drop i).length - (n - 1 - i))) >>= fun d => pure (items.toList.take i ++ [d] ++ (items.toList.drop i).drop ((items.toList.drop i).length - (n - 1 - i)))) _ _ _
  rw [hmid]
  have he : ∀ b o, s.heap.get? b = some o → h₂.get? b = some o := fun b o e => hk b o (Nat.ne_of_lt (Heap.lt_size e)) (hs₁.extBut b o (Nat.ne_of_lt (Heap.lt_size e)) (Heap.get?_push_of_some _ e))
  exact wpAny_bind (wpAny_newList (wpAny_pure (h h₂ tk he)) (by rw [List.length_take, hrl, sizeLine_eq]; omega))
theorem dstar_assign {l : Addr} {items : Array Value} {n i : Nat} {Q : Unit → Shared → Prop} (hl : IsTup s.heap l items) (hh : A.handled = none) (hlen : (assignEach elts env).length = n) (hstar : (assignEach elts env).findIdx? (·.1) = some i)
    (hi : i < n) (hn : n ≤ items.size + 1) (hz : items.size ≤ 16384)
    (h : ∀ (h2 : Heap) (tk : Nat), (∀ b o, s.heap.get? b = some o → h2.get? b = some o) → wpAny (model prog w) A (assignInOrder ((assignEach elts env).map (·.2)) (items.toList.take i ++ [.ref h2.objs.size] ++ (items.toList.drop i).drop (items.size + 1 - n))) Q E { s with heap := h2.push { cls := .type "list", data := .seq ((items.toList.drop i).take (items.size + 1 - n)).toArray }, toks := tk }) :
    wpAny (model prog w) A (assign (.Tuple elts k pos) env (.ref l)) Q E s := by
  rw [assign_Tuple]
  refine wpAny_bind (wpAny_standAt ?_)
  unfold unpack
  rw [hlen, hstar]
  exact wpAny_bind (wpAny_holding (dstar_items hl hh hi hn hz h))
end
end PySem.W
namespace L2
open PySem PySem.Spec PyProof.Rows
section
variable {X : Cx} {pos : Pos} {es : List Expr}
theorem pgs_star {e : Expr} {p : Pos} {es : List Expr} {t : TG} {u : TGs} (h1 : PG X e t) (h2 : PGs X es u)
    (hs : (assignEach (.Starred e p :: es) X.env).map (·.2) = assign e X.env :: (assignEach es X.env).map (·.2) := by rfl) : PGs X (.Starred e p :: es) (gCons t u) := by
  refine ⟨fun pins s σ H vs us Q I r h => ?_⟩
  obtain ⟨v, vr, e1, h⟩ := h
  subst e1
  cases r with
  | cons r rr =>
    rw [hs]
    refine assignInOrder_cons (thn (h1.run pins s σ H _ _ _ I r h) fun _ s1 ⟨σ1, H1, I1, q1⟩ => ?_)
    exact h2.run pins s1 σ1 H1 _ _ Q I1 rr q1
/-- (a, *b, ..) = a tuple -/
def gStarT (K : PySem.W.Frag) (n i : Nat) (t : TGs) : TG := fun v σ H Q => ∃ a xs, v = .ref a ∧ SqT K H a xs ∧ i < n ∧ n ≤ xs.length + 1 ∧ xs.length ≤ 16384 ∧
  ∀ p, H p = none → t (xs.take i ++ [V.ref p] ++ (xs.drop i).drop (xs.length + 1 - n)) σ (upd H p (.lst ((xs.drop i).take (xs.length + 1 - n)))) Q
theorem vals_take {xs : List V} {us : List Value} (r : Vals xs us) : ∀ n, Vals (xs.take n) (us.take n) := by
  induction r with
  | nil => intro n; simp; exact .nil
  | cons h t ih =>
    intro n
    cases n with
    | zero => exact .nil
    | succ n => exact .cons h (ih n)
theorem vals_drop {xs : List V} {us : List Value} (r : Vals xs us) : ∀ n, Vals (xs.drop n) (us.drop n) := by
  induction r with
  | nil => intro n; simp; exact .nil
  | cons h t ih =>
    intro n
    cases n with
    | zero => exact .cons h t
    | succ n => exact ih n
theorem pg_starT {k n i : Nat} {t : TGs} (hc : X.calm = true) (h : PGs X es t)
    (hn : (assignEach es X.env).length = n := by rfl) (hst : (assignEach es X.env).findIdx? (·.1) = some i := by rfl) : PG X (.Tuple es k pos) (gStarT X.K n i t) := by
  refine ⟨fun pins s σ H v u Q I r hw => ?_⟩
  obtain ⟨a, xs, e1, hq, h1, h2, h3, hw⟩ := hw
  subst e1
  cases r
  obtain ⟨its, rv, ht, hz⟩ := I.tuple hq
  have lv : its.toArray.size = xs.length := by rw [rv.length]; simp
  refine PySem.W.dstar_assign ht (I.ok.hd hc) hn hst h1 (by rw [lv]; exact h2) (by rw [lv]; exact h3) fun g tk hx => ?_
  have I1 : Inv X pins σ H { s with heap := g, toks := tk } := I.kept (t' := tk) fun b o e => hx b o e
  have hf : H g.objs.size = none := I1.hok.fresh (Nat.le_refl _)
  have rm : Vals ((xs.drop i).take (xs.length + 1 - n)) ((its.drop i).take (xs.length + 1 - n)) := vals_take (vals_drop rv i) _
  have I2 : Inv X pins σ (upd H g.objs.size (.lst ((xs.drop i).take (xs.length + 1 - n)))) { s with heap := g.push { cls := .type "list", data := .seq ((its.drop i).take (xs.length + 1 - n)).toArray }, toks := tk } := by
    refine I1.laid (t' := tk) (fun b u e => Heap.get?_push_of_some _ e) (Nat.le_refl _) ?_
    refine ⟨?_, _, 0, rm, Heap.get?_push_size _ rfl⟩
    rw [List.length_take, List.length_drop, sizeLine_eq]
    omega
  refine h.run pins _ σ _ _ _ Q (by rw [lv]; exact I2) ?_ (hw _ hf)
  rw [lv]
  refine ((vals_take rv i).append (.cons (a := V.ref g.objs.size) (b := Value.ref g.objs.size) rfl .nil)).append (vals_drop (vals_drop rv i) _)
end
end L2
namespace DL
open PySem PySem.Spec L2 C8
section
variable {X : Cx} {E : XK} {pos : Pos} {e : Expr} {es : List Expr}
theorem ags_star {p : Pos} {g : WG} {gr : WGs} (h1 : AG X E e g) (h2 : AGs X E es gr) (hs : (assignEach (.Starred e p :: es) X.env).map (·.2) = assign e X.env :: (assignEach es X.env).map (·.2) := by rfl) : AGs X E (.Starred e p :: es) (gsCons g gr) := by
  refine ⟨PGs.imp (pgs_star h1.run h2.run hs) fun v σ H Q ⟨F, ρ, h, d, S, R, r, q⟩ => ?_, fun d ρ h Q Q' X X' hq hx q => ?_⟩
  · obtain ⟨x, xs, rfl, q⟩ := q
    cases r with
    | cons r rr =>
      refine ⟨_, _, rfl, F, ρ, h, x, S, R, r, h1.mo _ _ _ _ _ _ _ (fun ρ1 g1 z => ?_) (fun _ _ z => z) q⟩
      intro F1 H1 σ1 e1 S1 R1
      exact ⟨F1, ρ1, g1, xs, S1, R1, rr.ext e1, h2.mo _ _ _ _ _ _ _ (fun _ _ z => LS.ext e1 z) (fun _ _ z => LX.ext e1 z) z⟩
  · obtain ⟨x, xs, e, q⟩ := q
    exact ⟨x, xs, e, h1.mo _ _ _ _ _ _ _ (fun ρ1 g1 z => h2.mo _ _ _ _ _ _ _ hq hx z) hx q⟩
/-- (a, *b, ..) = a tuple: the list is one that does not change -/
def gStarD (n i : Nat) (t : WGs) : WG := fun d ρ h Q X => ∃ xs, d = .tup xs ∧ i < n ∧ n ≤ xs.length + 1 ∧ xs.length ≤ 16384 ∧ t (xs.take i ++ [.lst ((xs.drop i).take (xs.length + 1 - n))] ++ (xs.drop i).drop (xs.length + 1 - n)) ρ h Q X
theorem ag_starT {k2 n i : Nat} {gr : WGs} (hc : X.calm = true) (h : AGs X E es gr) (hn : (assignEach es X.env).length = n := by rfl) (hst : (assignEach es X.env).findIdx? (·.1) = some i := by rfl) : AG X E (.Tuple es k2 pos) (gStarD n i gr) := by
  refine ⟨PG.imp (pg_starT hc h.run hn hst) fun v σ H Q ⟨F, ρ, g, d, S, R, r, q⟩ => ?_, fun d ρ g Q Q' X X' hq hx q => ?_⟩
  · obtain ⟨xs, rfl, l1, l2, l3, q⟩ := q
    cases r with
    | @tup a _ vs hs rs =>
      refine ⟨a, vs, rfl, sqt_of S.fz hs, l1, by rw [← rs.length]; exact l2, by rw [← rs.length]; exact l3, fun p hp => ?_⟩
      have lv := rs.length
      obtain ⟨f, gg⟩ := S.free hp
      have e := ext_upd f (o := .lst ((vs.drop i).take (vs.length + 1 - n)))
      refine ⟨_, ρ, g, _, S.newF hp _, R.ext e, ?_, h.mo _ _ _ _ _ _ _ (fun _ _ z => LS.ext e z) (fun _ _ z => LX.ext e z) q⟩
      rw [lv]
      have rd := rs.drop i
      refine Reps.append (Reps.append ((rs.take i).ext e) (.cons (.lst upd_same ((rd.take _).ext e)) .nil)) ((rd.drop _).ext e)
  · obtain ⟨xs, e, l1, l2, l3, q⟩ := q
    exact ⟨xs, e, l1, l2, l3, h.mo _ _ _ _ _ _ _ hq hx q⟩
end
end DL
namespace DL
open PySem PySem.Spec L2 C8
/-- a def of which nothing is promised yet -/
theorem fng_none {gz : Bool} {P : Program} {w : World} {K : PySem.W.Frag} {mg : Str → Option Value} {base : Heap} {k : Nat} {f : Addr} {fd : FuncData} {ps : List Str} {S : FSpec} (no : ∀ ds h Q X, ¬ S ds h Q X) : FnG gz P w K mg base k f fd ps S :=
  ⟨fun _ _ _ _ s => (no _ _ _ _ s).elim, fun _ _ _ _ _ _ _ _ s => (no _ _ _ _ s).elim, fun _ _ _ _ _ ⟨_, _, _, _, _, s⟩ => (no _ _ _ _ s).elim⟩
/-! ### a tuple of texts that a name of the module holds -/
def strOf : Value → Option Str
  | .str x _ => some x
  | _ => none
def strsOf : List Value → Option (List Str)
  | [] => some []
  | v :: vs => match strOf v, strsOf vs with
    | some x, some xs => some (x :: xs)
    | _, _ => none
theorem strs_vals : ∀ {vs : List Value} {xs : List Str}, strsOf vs = some xs → Vals (xs.map V.str) vs
  | [], _, h => by cases h; exact .nil
  | v :: vs, xs, h => by
    unfold strsOf at h
    split at h
    · rename_i x ys h1 h2
      cases h
      cases v with
      | str y t => cases h1; exact .cons ⟨t, rfl⟩ (strs_vals h2)
      | _ => cases h1
    · cases h
theorem reps_strs {K : PySem.W.Frag} {F : Hp} : ∀ xs : List Str, Reps K F (xs.map D.str) (xs.map V.str)
  | [] => .nil
  | x :: xs => .cons (.str x) (reps_strs xs)
theorem cst_strs {K : PySem.W.Frag} {mg : Str → Option Value} {x : Str} {a : Addr} {xs : List Str} {d : Option Addr} {its : Array Value} {m : Nat} {sl : Array (Option Value)} (h : mg x = some (.ref a)) (e : K.lookup a = some ⟨.type "tuple", d, .seq its m, sl⟩) (c : its.size ≤ 1000) (q : strsOf its.toList = some xs) : Cst K mg x (.tup (xs.map D.str)) :=
  ⟨⟨.ref a, _, h, rfl, fun F => .tup (.inr ⟨_, its, m, e, rfl, rfl, Nat.le_trans c (by rw [sizeLine_eq]; decide), strs_vals q⟩) (reps_strs xs)⟩⟩
end DL
namespace K03
open PySem PySem.Spec L2 DL PyProof.Rows
/-! ### the text by places (printed by gen4.py) -/
def top (i : Nat) : Stmt := PySem.Challenge.pw_forkecho_k03_bounds_of_programs.main.body.getD i (.Pass ⟨0, 0, 0, 0⟩)
abbrev s_is_integer : Stmt := top 23
abbrev s_is_between : Stmt := top 24
abbrev s_is_head : Stmt := top 36
abbrev s_inner_of : Stmt := top 37
abbrev s_bytes_of : Stmt := top 38
abbrev s_wrong_in : Stmt := top 41
abbrev s_first_wrong : Stmt := top 42
abbrev s_size_in : Stmt := top 43
abbrev s_bytes_in : Stmt := top 44
abbrev s_reach_in : Stmt := top 45
abbrev s_Program___init__ : Stmt := inClass (top 67) 5
abbrev s_Program_of : Stmt := inClass (top 67) 6
abbrev s_Program_size : Stmt := inClass (top 67) 10
abbrev s_Program_reach : Stmt := inClass (top 67) 11
abbrev s__law_pen : Stmt := top 71
abbrev s__law_draw : Stmt := top 72
abbrev s__law_heard : Stmt := top 73
abbrev s__law_told : Stmt := top 75
abbrev s__law_actions_right : Stmt := top 76
abbrev s__law_depth_right : Stmt := top 77
abbrev s__law_points_right : Stmt := top 78
abbrev s__law_bytes_right : Stmt := top 79
abbrev s__law_order_right : Stmt := top 80
abbrev s_law : Stmt := top 81
abbrev s_InvalidProgram___init__ : Stmt := inClass (top 3) 0
abbrev s_TooLarge___init__ : Stmt := inClass (top 10) 0
abbrev s_TooLong___init__ : Stmt := inClass (top 11) 0
abbrev ck_0 (K : Hx.Fr) : Bool := decide (PySem.W.nsIn K mainGlobals "LineProgram" = some (some (.ref (Hx.gl K "LineProgram"))))
abbrev ck_1 (K : Hx.Fr) : Bool := decide (PySem.W.plainGet K (Hx.gl K "LineProgram") Str.empty = true)
abbrev ck_2 (K : Hx.Fr) : Bool := decide (PySem.W.hasDictIn K (Hx.gl K "LineProgram") = true)
abbrev ck_3 (K : Hx.Fr) : Bool := decide (PySem.W.plainOver K (Hx.gl K "LineProgram") = true)
abbrev ck_4 (K : Hx.Fr) : Bool := decide (PySem.W.findIn K (.ref (Hx.gl K "LineProgram")) "__setattr__" = some (some (.builtin "object.__setattr__")))
abbrev ck_5 (K : Hx.Fr) : Bool := decide (PySem.W.makesIn K (Hx.gl K "LineProgram") = true)
abbrev ck_6 (K : Hx.Fr) : Bool := decide (PySem.W.keepIn K (.ref (Hx.gl K "LineProgram")) = true)
abbrev ck_7 (K : Hx.Fr) : Bool := decide (PySem.W.selfFirst K (Hx.gl K "LineProgram") = true)
abbrev ck_8 (K : Hx.Fr) : Bool := decide (PySem.W.findIn K (.ref (Hx.gl K "LineProgram")) "held" = some none)
abbrev ck_9 (K : Hx.Fr) : Bool := decide (PySem.W.nsIn K mainGlobals "Program" = some (some (.ref (Hx.gl K "Program"))))
abbrev ck_10 (K : Hx.Fr) : Bool := decide (PySem.W.plainGet K (Hx.gl K "Program") Str.empty = true)
abbrev ck_11 (K : Hx.Fr) : Bool := decide (PySem.W.hasDictIn K (Hx.gl K "Program") = true)
abbrev ck_12 (K : Hx.Fr) : Bool := decide (PySem.W.plainOver K (Hx.gl K "Program") = true)
abbrev ck_13 (K : Hx.Fr) : Bool := decide (PySem.W.findIn K (.ref (Hx.gl K "Program")) "__setattr__" = some (some (.builtin "object.__setattr__")))
abbrev ck_14 (K : Hx.Fr) : Bool := decide (PySem.W.makesIn K (Hx.gl K "Program") = true)
abbrev ck_15 (K : Hx.Fr) : Bool := decide (PySem.W.keepIn K (.ref (Hx.gl K "Program")) = true)
abbrev ck_16 (K : Hx.Fr) : Bool := decide (PySem.W.selfFirst K (Hx.gl K "Program") = true)
abbrev ck_17 (K : Hx.Fr) : Bool := decide (PySem.W.findIn K (.ref (Hx.gl K "Program")) "held" = some none)
abbrev ck_18 (K : Hx.Fr) : Bool := decide (PySem.W.nsIn K mainGlobals "AbsentError" = some (some (.ref (Hx.gl K "AbsentError"))))
abbrev ck_19 (K : Hx.Fr) : Bool := decide (PySem.W.nsIn K mainGlobals "DifferentModes" = some (some (.ref (Hx.gl K "DifferentModes"))))
abbrev ck_20 (K : Hx.Fr) : Bool := decide (PySem.W.nsIn K mainGlobals "EchoError" = some (some (.ref (Hx.gl K "EchoError"))))
abbrev ck_21 (K : Hx.Fr) : Bool := decide (PySem.W.nsIn K mainGlobals "InvalidCapacity" = some (some (.ref (Hx.gl K "InvalidCapacity"))))
abbrev ck_22 (K : Hx.Fr) : Bool := decide (PySem.W.nsIn K mainGlobals "InvalidMode" = some (some (.ref (Hx.gl K "InvalidMode"))))
abbrev ck_23 (K : Hx.Fr) : Bool := decide (PySem.W.nsIn K mainGlobals "InvalidNumber" = some (some (.ref (Hx.gl K "InvalidNumber"))))
abbrev ck_24 (K : Hx.Fr) : Bool := decide (PySem.W.nsIn K mainGlobals "InvalidProgram" = some (some (.ref (Hx.gl K "InvalidProgram"))))
abbrev ck_25 (K : Hx.Fr) : Bool := decide (PySem.W.nsIn K mainGlobals "NoPlace" = some (some (.ref (Hx.gl K "NoPlace"))))
abbrev ck_26 (K : Hx.Fr) : Bool := decide (PySem.W.nsIn K mainGlobals "NoPoint" = some (some (.ref (Hx.gl K "NoPoint"))))
abbrev ck_27 (K : Hx.Fr) : Bool := decide (PySem.W.nsIn K mainGlobals "SizeError" = some (some (.ref (Hx.gl K "SizeError"))))
abbrev ck_28 (K : Hx.Fr) : Bool := decide (PySem.W.nsIn K mainGlobals "TooLarge" = some (some (.ref (Hx.gl K "TooLarge"))))
abbrev ck_29 (K : Hx.Fr) : Bool := decide (PySem.W.nsIn K mainGlobals "TooLong" = some (some (.ref (Hx.gl K "TooLong"))))
abbrev ck_30 (K : Hx.Fr) : Bool := decide (PySem.W.nsIn K mainGlobals "TooManyProcesses" = some (some (.ref (Hx.gl K "TooManyProcesses"))))
abbrev ck_31 (K : Hx.Fr) : Bool := Hx.xcOk K (Hx.gl K "InvalidProgram") "ValueError.__new__"
abbrev ck_32 (K : Hx.Fr) : Bool := decide (PySem.W.excTail [.type "ValueError", .type "Exception", .type "BaseException", .type "object"] ((Hx.cdOf K (Hx.gl K "InvalidProgram")).mro.tail) = true)
abbrev ck_33 (K : Hx.Fr) : Bool := decide (PySem.W.findIn K (.ref (Hx.gl K "InvalidProgram")) "__setattr__" = some (some (.builtin "object.__setattr__")))
abbrev ck_34 (K : Hx.Fr) : Bool := decide (PySem.W.findIn K (.ref (Hx.gl K "InvalidProgram")) "__init__" = some (some (.ref (Hx.me K (Hx.gl K "InvalidProgram") "__init__"))))
abbrev ck_35 (K : Hx.Fr) : Bool := decide (PySem.W.typeIn K (.ref (Hx.me K (Hx.gl K "InvalidProgram") "__init__")) = some (.type "function"))
abbrev ck_36 (K : Hx.Fr) : Bool := decide (PySem.W.findIn K (.ref (Hx.gl K "InvalidProgram")) "place" = some none)
abbrev ck_37 (K : Hx.Fr) : Bool := Hx.xcOk K (Hx.gl K "TooLarge") "OverflowError.__new__"
abbrev ck_38 (K : Hx.Fr) : Bool := decide (PySem.W.excTail [.type "OverflowError", .type "ArithmeticError", .type "Exception", .type "BaseException", .type "object"] ((Hx.cdOf K (Hx.gl K "TooLarge")).mro.tail) = true)
abbrev ck_39 (K : Hx.Fr) : Bool := decide (PySem.W.findIn K (.ref (Hx.gl K "TooLarge")) "__setattr__" = some (some (.builtin "object.__setattr__")))
abbrev ck_40 (K : Hx.Fr) : Bool := decide (PySem.W.findIn K (.ref (Hx.gl K "TooLarge")) "__init__" = some (some (.ref (Hx.me K (Hx.gl K "TooLarge") "__init__"))))
abbrev ck_41 (K : Hx.Fr) : Bool := decide (PySem.W.typeIn K (.ref (Hx.me K (Hx.gl K "TooLarge") "__init__")) = some (.type "function"))
abbrev ck_42 (K : Hx.Fr) : Bool := decide (PySem.W.findIn K (.ref (Hx.gl K "TooLarge")) "points" = some none)
abbrev ck_43 (K : Hx.Fr) : Bool := Hx.xcOk K (Hx.gl K "TooLong") "OverflowError.__new__"
abbrev ck_44 (K : Hx.Fr) : Bool := decide (PySem.W.excTail [.type "OverflowError", .type "ArithmeticError", .type "Exception", .type "BaseException", .type "object"] ((Hx.cdOf K (Hx.gl K "TooLong")).mro.tail) = true)
abbrev ck_45 (K : Hx.Fr) : Bool := decide (PySem.W.findIn K (.ref (Hx.gl K "TooLong")) "__setattr__" = some (some (.builtin "object.__setattr__")))
abbrev ck_46 (K : Hx.Fr) : Bool := decide (PySem.W.findIn K (.ref (Hx.gl K "TooLong")) "__init__" = some (some (.ref (Hx.me K (Hx.gl K "TooLong") "__init__"))))
abbrev ck_47 (K : Hx.Fr) : Bool := decide (PySem.W.typeIn K (.ref (Hx.me K (Hx.gl K "TooLong") "__init__")) = some (.type "function"))
abbrev ck_48 (K : Hx.Fr) : Bool := decide (PySem.W.findIn K (.ref (Hx.gl K "TooLong")) "length" = some none)
abbrev ck_49 (K : Hx.Fr) : Bool := decide (PySem.W.subIn K (.ref (Hx.gl K "DifferentModes")) (.type "BaseException") = some true)
abbrev ck_50 (K : Hx.Fr) : Bool := decide (PySem.W.subIn K (.ref (Hx.gl K "InvalidMode")) (.type "BaseException") = some true)
abbrev ck_51 (K : Hx.Fr) : Bool := decide (PySem.W.subIn K (.ref (Hx.gl K "InvalidNumber")) (.type "BaseException") = some true)
abbrev ck_52 (K : Hx.Fr) : Bool := decide (PySem.W.subIn K (.ref (Hx.gl K "InvalidProgram")) (.type "BaseException") = some true)
abbrev ck_53 (K : Hx.Fr) : Bool := decide (PySem.W.subIn K (.ref (Hx.gl K "NoPlace")) (.type "BaseException") = some true)
abbrev ck_54 (K : Hx.Fr) : Bool := decide (PySem.W.subIn K (.ref (Hx.gl K "TooLarge")) (.type "BaseException") = some true)
abbrev ck_55 (K : Hx.Fr) : Bool := decide (PySem.W.subIn K (.ref (Hx.gl K "TooLong")) (.type "BaseException") = some true)
abbrev ck_56 (K : Hx.Fr) : Bool := decide (PySem.W.typeIn K (.ref (Hx.gl K "InvalidProgram")) = some (.type "type"))
abbrev ck_57 (K : Hx.Fr) : Bool := decide (PySem.W.keepIn K (.ref (Hx.gl K "InvalidProgram")) = true)
abbrev ck_58 (K : Hx.Fr) : Bool := decide (PySem.W.typeIn K (.ref (Hx.gl K "TooLarge")) = some (.type "type"))
abbrev ck_59 (K : Hx.Fr) : Bool := decide (PySem.W.keepIn K (.ref (Hx.gl K "TooLarge")) = true)
abbrev ck_60 (K : Hx.Fr) : Bool := decide (PySem.W.typeIn K (.ref (Hx.gl K "TooLong")) = some (.type "type"))
abbrev ck_61 (K : Hx.Fr) : Bool := decide (PySem.W.keepIn K (.ref (Hx.gl K "TooLong")) = true)
abbrev ck_62 (K : Hx.Fr) : Bool := decide (PySem.W.specialIn K (.builtin "object.__class__") "__get__" = some (some (.builtin "getset_descriptor.__get__")))
abbrev ck_63 (K : Hx.Fr) : Bool := decide (PySem.W.takesIn K (.builtin "object.__class__") = some true)
abbrev ck_64 (K : Hx.Fr) : Bool := decide (PySem.W.subIn K (.ref (Hx.gl K "EchoError")) (.type "BaseException") = some true)
abbrev ck_65 (K : Hx.Fr) : Bool := decide (PySem.W.hasDictIn K (Hx.gl K "EchoError") = true)
abbrev ck_66 (K : Hx.Fr) : Bool := decide (PySem.W.typeIn K (.ref (Hx.gl K "EchoError")) = some (.type "type"))
abbrev ck_67 (K : Hx.Fr) : Bool := decide (PySem.W.subIn K (.ref (Hx.gl K "SizeError")) (.type "BaseException") = some true)
abbrev ck_68 (K : Hx.Fr) : Bool := decide (PySem.W.hasDictIn K (Hx.gl K "SizeError") = true)
abbrev ck_69 (K : Hx.Fr) : Bool := decide (PySem.W.typeIn K (.ref (Hx.gl K "SizeError")) = some (.type "type"))
abbrev ck_70 (K : Hx.Fr) : Bool := decide (PySem.W.subIn K (.ref (Hx.gl K "AbsentError")) (.type "BaseException") = some true)
abbrev ck_71 (K : Hx.Fr) : Bool := decide (PySem.W.hasDictIn K (Hx.gl K "AbsentError") = true)
abbrev ck_72 (K : Hx.Fr) : Bool := decide (PySem.W.typeIn K (.ref (Hx.gl K "AbsentError")) = some (.type "type"))
abbrev ck_73 (K : Hx.Fr) : Bool := decide (PySem.W.findIn K (.ref (Hx.gl K "InvalidProgram")) "__getattribute__" = some (some (.builtin "BaseException.__getattribute__")))
abbrev ck_74 (K : Hx.Fr) : Bool := decide (PySem.W.findIn K (.ref (Hx.gl K "InvalidProgram")) "__getattr__" = some none)
abbrev ck_75 (K : Hx.Fr) : Bool := decide (PySem.W.hasDictIn K (Hx.gl K "InvalidProgram") = true)
abbrev ck_76 (K : Hx.Fr) : Bool := decide (PySem.W.findIn K (.ref (Hx.gl K "InvalidProgram")) "__class__" = some (some (.builtin "object.__class__")))
abbrev ck_77 (K : Hx.Fr) : Bool := decide (PySem.W.mroIn K (Hx.gl K "InvalidProgram") (.type "object") = some true)
abbrev ck_78 (K : Hx.Fr) : Bool := decide (PySem.W.subIn K (.ref (Hx.gl K "InvalidProgram")) (.ref (Hx.gl K "EchoError")) = some true)
abbrev ck_79 (K : Hx.Fr) : Bool := decide (PySem.W.subIn K (.ref (Hx.gl K "InvalidProgram")) (.ref (Hx.gl K "SizeError")) = some false)
abbrev ck_80 (K : Hx.Fr) : Bool := decide (PySem.W.subIn K (.ref (Hx.gl K "InvalidProgram")) (.ref (Hx.gl K "AbsentError")) = some false)
abbrev ck_81 (K : Hx.Fr) : Bool := decide (PySem.W.kitOne K (.ref (Hx.gl K "InvalidProgram")) (.ref (Hx.gl K "DifferentModes")) = some false)
abbrev ck_82 (K : Hx.Fr) : Bool := decide (PySem.W.kitOne K (.ref (Hx.gl K "InvalidProgram")) (.ref (Hx.gl K "InvalidCapacity")) = some false)
abbrev ck_83 (K : Hx.Fr) : Bool := decide (PySem.W.kitOne K (.ref (Hx.gl K "InvalidProgram")) (.ref (Hx.gl K "InvalidMode")) = some false)
abbrev ck_84 (K : Hx.Fr) : Bool := decide (PySem.W.kitOne K (.ref (Hx.gl K "InvalidProgram")) (.ref (Hx.gl K "InvalidNumber")) = some false)
abbrev ck_85 (K : Hx.Fr) : Bool := decide (PySem.W.kitOne K (.ref (Hx.gl K "InvalidProgram")) (.ref (Hx.gl K "InvalidProgram")) = some true)
abbrev ck_86 (K : Hx.Fr) : Bool := decide (PySem.W.kitOne K (.ref (Hx.gl K "InvalidProgram")) (.type "LookupError") = some false)
abbrev ck_87 (K : Hx.Fr) : Bool := decide (PySem.W.kitOne K (.ref (Hx.gl K "InvalidProgram")) (.ref (Hx.gl K "NoPlace")) = some false)
abbrev ck_88 (K : Hx.Fr) : Bool := decide (PySem.W.kitOne K (.ref (Hx.gl K "InvalidProgram")) (.ref (Hx.gl K "NoPoint")) = some false)
abbrev ck_89 (K : Hx.Fr) : Bool := decide (PySem.W.kitOne K (.ref (Hx.gl K "InvalidProgram")) (.type "OverflowError") = some false)
abbrev ck_90 (K : Hx.Fr) : Bool := decide (PySem.W.kitOne K (.ref (Hx.gl K "InvalidProgram")) (.ref (Hx.gl K "TooLarge")) = some false)
abbrev ck_91 (K : Hx.Fr) : Bool := decide (PySem.W.kitOne K (.ref (Hx.gl K "InvalidProgram")) (.ref (Hx.gl K "TooLong")) = some false)
abbrev ck_92 (K : Hx.Fr) : Bool := decide (PySem.W.kitOne K (.ref (Hx.gl K "InvalidProgram")) (.ref (Hx.gl K "TooManyProcesses")) = some false)
abbrev ck_93 (K : Hx.Fr) : Bool := decide (PySem.W.kitOne K (.ref (Hx.gl K "InvalidProgram")) (.type "ValueError") = some true)
abbrev ck_94 (K : Hx.Fr) : Bool := decide (PySem.W.findIn K (.ref (Hx.gl K "InvalidProgram")) "place" = some none)
abbrev ck_95 (K : Hx.Fr) : Bool := decide (PySem.W.findIn K (.ref (Hx.gl K "NoPlace")) "__getattribute__" = some (some (.builtin "BaseException.__getattribute__")))
abbrev ck_96 (K : Hx.Fr) : Bool := decide (PySem.W.findIn K (.ref (Hx.gl K "NoPlace")) "__getattr__" = some none)
abbrev ck_97 (K : Hx.Fr) : Bool := decide (PySem.W.hasDictIn K (Hx.gl K "NoPlace") = true)
abbrev ck_98 (K : Hx.Fr) : Bool := decide (PySem.W.findIn K (.ref (Hx.gl K "NoPlace")) "__class__" = some (some (.builtin "object.__class__")))
abbrev ck_99 (K : Hx.Fr) : Bool := decide (PySem.W.mroIn K (Hx.gl K "NoPlace") (.type "object") = some true)
abbrev ck_100 (K : Hx.Fr) : Bool := decide (PySem.W.subIn K (.ref (Hx.gl K "NoPlace")) (.ref (Hx.gl K "EchoError")) = some false)
abbrev ck_101 (K : Hx.Fr) : Bool := decide (PySem.W.subIn K (.ref (Hx.gl K "NoPlace")) (.ref (Hx.gl K "SizeError")) = some false)
abbrev ck_102 (K : Hx.Fr) : Bool := decide (PySem.W.subIn K (.ref (Hx.gl K "NoPlace")) (.ref (Hx.gl K "AbsentError")) = some true)
abbrev ck_103 (K : Hx.Fr) : Bool := decide (PySem.W.kitOne K (.ref (Hx.gl K "NoPlace")) (.ref (Hx.gl K "DifferentModes")) = some false)
abbrev ck_104 (K : Hx.Fr) : Bool := decide (PySem.W.kitOne K (.ref (Hx.gl K "NoPlace")) (.ref (Hx.gl K "InvalidCapacity")) = some false)
abbrev ck_105 (K : Hx.Fr) : Bool := decide (PySem.W.kitOne K (.ref (Hx.gl K "NoPlace")) (.ref (Hx.gl K "InvalidMode")) = some false)
abbrev ck_106 (K : Hx.Fr) : Bool := decide (PySem.W.kitOne K (.ref (Hx.gl K "NoPlace")) (.ref (Hx.gl K "InvalidNumber")) = some false)
abbrev ck_107 (K : Hx.Fr) : Bool := decide (PySem.W.kitOne K (.ref (Hx.gl K "NoPlace")) (.ref (Hx.gl K "InvalidProgram")) = some false)
abbrev ck_108 (K : Hx.Fr) : Bool := decide (PySem.W.kitOne K (.ref (Hx.gl K "NoPlace")) (.type "LookupError") = some true)
abbrev ck_109 (K : Hx.Fr) : Bool := decide (PySem.W.kitOne K (.ref (Hx.gl K "NoPlace")) (.ref (Hx.gl K "NoPlace")) = some true)
abbrev ck_110 (K : Hx.Fr) : Bool := decide (PySem.W.kitOne K (.ref (Hx.gl K "NoPlace")) (.ref (Hx.gl K "NoPoint")) = some false)
abbrev ck_111 (K : Hx.Fr) : Bool := decide (PySem.W.kitOne K (.ref (Hx.gl K "NoPlace")) (.type "OverflowError") = some false)
abbrev ck_112 (K : Hx.Fr) : Bool := decide (PySem.W.kitOne K (.ref (Hx.gl K "NoPlace")) (.ref (Hx.gl K "TooLarge")) = some false)
abbrev ck_113 (K : Hx.Fr) : Bool := decide (PySem.W.kitOne K (.ref (Hx.gl K "NoPlace")) (.ref (Hx.gl K "TooLong")) = some false)
abbrev ck_114 (K : Hx.Fr) : Bool := decide (PySem.W.kitOne K (.ref (Hx.gl K "NoPlace")) (.ref (Hx.gl K "TooManyProcesses")) = some false)
abbrev ck_115 (K : Hx.Fr) : Bool := decide (PySem.W.kitOne K (.ref (Hx.gl K "NoPlace")) (.type "ValueError") = some false)
abbrev ck_116 (K : Hx.Fr) : Bool := decide (PySem.W.findIn K (.ref (Hx.gl K "NoPlace")) "place" = some none)
abbrev ck_117 (K : Hx.Fr) : Bool := decide (PySem.W.findIn K (.ref (Hx.gl K "TooLarge")) "__getattribute__" = some (some (.builtin "BaseException.__getattribute__")))
abbrev ck_118 (K : Hx.Fr) : Bool := decide (PySem.W.findIn K (.ref (Hx.gl K "TooLarge")) "__getattr__" = some none)
abbrev ck_119 (K : Hx.Fr) : Bool := decide (PySem.W.hasDictIn K (Hx.gl K "TooLarge") = true)
abbrev ck_120 (K : Hx.Fr) : Bool := decide (PySem.W.findIn K (.ref (Hx.gl K "TooLarge")) "__class__" = some (some (.builtin "object.__class__")))
abbrev ck_121 (K : Hx.Fr) : Bool := decide (PySem.W.mroIn K (Hx.gl K "TooLarge") (.type "object") = some true)
abbrev ck_122 (K : Hx.Fr) : Bool := decide (PySem.W.subIn K (.ref (Hx.gl K "TooLarge")) (.ref (Hx.gl K "EchoError")) = some false)
abbrev ck_123 (K : Hx.Fr) : Bool := decide (PySem.W.subIn K (.ref (Hx.gl K "TooLarge")) (.ref (Hx.gl K "SizeError")) = some true)
abbrev ck_124 (K : Hx.Fr) : Bool := decide (PySem.W.subIn K (.ref (Hx.gl K "TooLarge")) (.ref (Hx.gl K "AbsentError")) = some false)
abbrev ck_125 (K : Hx.Fr) : Bool := decide (PySem.W.kitOne K (.ref (Hx.gl K "TooLarge")) (.ref (Hx.gl K "DifferentModes")) = some false)
abbrev ck_126 (K : Hx.Fr) : Bool := decide (PySem.W.kitOne K (.ref (Hx.gl K "TooLarge")) (.ref (Hx.gl K "InvalidCapacity")) = some false)
abbrev ck_127 (K : Hx.Fr) : Bool := decide (PySem.W.kitOne K (.ref (Hx.gl K "TooLarge")) (.ref (Hx.gl K "InvalidMode")) = some false)
abbrev ck_128 (K : Hx.Fr) : Bool := decide (PySem.W.kitOne K (.ref (Hx.gl K "TooLarge")) (.ref (Hx.gl K "InvalidNumber")) = some false)
abbrev ck_129 (K : Hx.Fr) : Bool := decide (PySem.W.kitOne K (.ref (Hx.gl K "TooLarge")) (.ref (Hx.gl K "InvalidProgram")) = some false)
abbrev ck_130 (K : Hx.Fr) : Bool := decide (PySem.W.kitOne K (.ref (Hx.gl K "TooLarge")) (.type "LookupError") = some false)
abbrev ck_131 (K : Hx.Fr) : Bool := decide (PySem.W.kitOne K (.ref (Hx.gl K "TooLarge")) (.ref (Hx.gl K "NoPlace")) = some false)
abbrev ck_132 (K : Hx.Fr) : Bool := decide (PySem.W.kitOne K (.ref (Hx.gl K "TooLarge")) (.ref (Hx.gl K "NoPoint")) = some false)
abbrev ck_133 (K : Hx.Fr) : Bool := decide (PySem.W.kitOne K (.ref (Hx.gl K "TooLarge")) (.type "OverflowError") = some true)
abbrev ck_134 (K : Hx.Fr) : Bool := decide (PySem.W.kitOne K (.ref (Hx.gl K "TooLarge")) (.ref (Hx.gl K "TooLarge")) = some true)
abbrev ck_135 (K : Hx.Fr) : Bool := decide (PySem.W.kitOne K (.ref (Hx.gl K "TooLarge")) (.ref (Hx.gl K "TooLong")) = some false)
abbrev ck_136 (K : Hx.Fr) : Bool := decide (PySem.W.kitOne K (.ref (Hx.gl K "TooLarge")) (.ref (Hx.gl K "TooManyProcesses")) = some false)
abbrev ck_137 (K : Hx.Fr) : Bool := decide (PySem.W.kitOne K (.ref (Hx.gl K "TooLarge")) (.type "ValueError") = some false)
abbrev ck_138 (K : Hx.Fr) : Bool := decide (PySem.W.findIn K (.ref (Hx.gl K "TooLarge")) "points" = some none)
abbrev ck_139 (K : Hx.Fr) : Bool := decide (PySem.W.findIn K (.ref (Hx.gl K "TooLong")) "__getattribute__" = some (some (.builtin "BaseException.__getattribute__")))
abbrev ck_140 (K : Hx.Fr) : Bool := decide (PySem.W.findIn K (.ref (Hx.gl K "TooLong")) "__getattr__" = some none)
abbrev ck_141 (K : Hx.Fr) : Bool := decide (PySem.W.hasDictIn K (Hx.gl K "TooLong") = true)
abbrev ck_142 (K : Hx.Fr) : Bool := decide (PySem.W.findIn K (.ref (Hx.gl K "TooLong")) "__class__" = some (some (.builtin "object.__class__")))
abbrev ck_143 (K : Hx.Fr) : Bool := decide (PySem.W.mroIn K (Hx.gl K "TooLong") (.type "object") = some true)
abbrev ck_144 (K : Hx.Fr) : Bool := decide (PySem.W.subIn K (.ref (Hx.gl K "TooLong")) (.ref (Hx.gl K "EchoError")) = some false)
abbrev ck_145 (K : Hx.Fr) : Bool := decide (PySem.W.subIn K (.ref (Hx.gl K "TooLong")) (.ref (Hx.gl K "SizeError")) = some true)
abbrev ck_146 (K : Hx.Fr) : Bool := decide (PySem.W.subIn K (.ref (Hx.gl K "TooLong")) (.ref (Hx.gl K "AbsentError")) = some false)
abbrev ck_147 (K : Hx.Fr) : Bool := decide (PySem.W.kitOne K (.ref (Hx.gl K "TooLong")) (.ref (Hx.gl K "DifferentModes")) = some false)
abbrev ck_148 (K : Hx.Fr) : Bool := decide (PySem.W.kitOne K (.ref (Hx.gl K "TooLong")) (.ref (Hx.gl K "InvalidCapacity")) = some false)
abbrev ck_149 (K : Hx.Fr) : Bool := decide (PySem.W.kitOne K (.ref (Hx.gl K "TooLong")) (.ref (Hx.gl K "InvalidMode")) = some false)
abbrev ck_150 (K : Hx.Fr) : Bool := decide (PySem.W.kitOne K (.ref (Hx.gl K "TooLong")) (.ref (Hx.gl K "InvalidNumber")) = some false)
abbrev ck_151 (K : Hx.Fr) : Bool := decide (PySem.W.kitOne K (.ref (Hx.gl K "TooLong")) (.ref (Hx.gl K "InvalidProgram")) = some false)
abbrev ck_152 (K : Hx.Fr) : Bool := decide (PySem.W.kitOne K (.ref (Hx.gl K "TooLong")) (.type "LookupError") = some false)
abbrev ck_153 (K : Hx.Fr) : Bool := decide (PySem.W.kitOne K (.ref (Hx.gl K "TooLong")) (.ref (Hx.gl K "NoPlace")) = some false)
abbrev ck_154 (K : Hx.Fr) : Bool := decide (PySem.W.kitOne K (.ref (Hx.gl K "TooLong")) (.ref (Hx.gl K "NoPoint")) = some false)
abbrev ck_155 (K : Hx.Fr) : Bool := decide (PySem.W.kitOne K (.ref (Hx.gl K "TooLong")) (.type "OverflowError") = some true)
abbrev ck_156 (K : Hx.Fr) : Bool := decide (PySem.W.kitOne K (.ref (Hx.gl K "TooLong")) (.ref (Hx.gl K "TooLarge")) = some false)
abbrev ck_157 (K : Hx.Fr) : Bool := decide (PySem.W.kitOne K (.ref (Hx.gl K "TooLong")) (.ref (Hx.gl K "TooLong")) = some true)
abbrev ck_158 (K : Hx.Fr) : Bool := decide (PySem.W.kitOne K (.ref (Hx.gl K "TooLong")) (.ref (Hx.gl K "TooManyProcesses")) = some false)
abbrev ck_159 (K : Hx.Fr) : Bool := decide (PySem.W.kitOne K (.ref (Hx.gl K "TooLong")) (.type "ValueError") = some false)
abbrev ck_160 (K : Hx.Fr) : Bool := decide (PySem.W.findIn K (.ref (Hx.gl K "TooLong")) "length" = some none)
abbrev ck_161 (K : Hx.Fr) : Bool := decide (PySem.W.findIn K (.ref (Hx.gl K "InvalidNumber")) "__getattribute__" = some (some (.builtin "BaseException.__getattribute__")))
abbrev ck_162 (K : Hx.Fr) : Bool := decide (PySem.W.findIn K (.ref (Hx.gl K "InvalidNumber")) "__getattr__" = some none)
abbrev ck_163 (K : Hx.Fr) : Bool := decide (PySem.W.hasDictIn K (Hx.gl K "InvalidNumber") = true)
abbrev ck_164 (K : Hx.Fr) : Bool := decide (PySem.W.findIn K (.ref (Hx.gl K "InvalidNumber")) "__class__" = some (some (.builtin "object.__class__")))
abbrev ck_165 (K : Hx.Fr) : Bool := decide (PySem.W.mroIn K (Hx.gl K "InvalidNumber") (.type "object") = some true)
abbrev ck_166 (K : Hx.Fr) : Bool := decide (PySem.W.subIn K (.ref (Hx.gl K "InvalidNumber")) (.ref (Hx.gl K "EchoError")) = some true)
abbrev ck_167 (K : Hx.Fr) : Bool := decide (PySem.W.subIn K (.ref (Hx.gl K "InvalidNumber")) (.ref (Hx.gl K "SizeError")) = some false)
abbrev ck_168 (K : Hx.Fr) : Bool := decide (PySem.W.subIn K (.ref (Hx.gl K "InvalidNumber")) (.ref (Hx.gl K "AbsentError")) = some false)
abbrev ck_169 (K : Hx.Fr) : Bool := decide (PySem.W.kitOne K (.ref (Hx.gl K "InvalidNumber")) (.ref (Hx.gl K "DifferentModes")) = some false)
abbrev ck_170 (K : Hx.Fr) : Bool := decide (PySem.W.kitOne K (.ref (Hx.gl K "InvalidNumber")) (.ref (Hx.gl K "InvalidCapacity")) = some false)
abbrev ck_171 (K : Hx.Fr) : Bool := decide (PySem.W.kitOne K (.ref (Hx.gl K "InvalidNumber")) (.ref (Hx.gl K "InvalidMode")) = some false)
abbrev ck_172 (K : Hx.Fr) : Bool := decide (PySem.W.kitOne K (.ref (Hx.gl K "InvalidNumber")) (.ref (Hx.gl K "InvalidNumber")) = some true)
abbrev ck_173 (K : Hx.Fr) : Bool := decide (PySem.W.kitOne K (.ref (Hx.gl K "InvalidNumber")) (.ref (Hx.gl K "InvalidProgram")) = some false)
abbrev ck_174 (K : Hx.Fr) : Bool := decide (PySem.W.kitOne K (.ref (Hx.gl K "InvalidNumber")) (.type "LookupError") = some false)
abbrev ck_175 (K : Hx.Fr) : Bool := decide (PySem.W.kitOne K (.ref (Hx.gl K "InvalidNumber")) (.ref (Hx.gl K "NoPlace")) = some false)
abbrev ck_176 (K : Hx.Fr) : Bool := decide (PySem.W.kitOne K (.ref (Hx.gl K "InvalidNumber")) (.ref (Hx.gl K "NoPoint")) = some false)
abbrev ck_177 (K : Hx.Fr) : Bool := decide (PySem.W.kitOne K (.ref (Hx.gl K "InvalidNumber")) (.type "OverflowError") = some false)
abbrev ck_178 (K : Hx.Fr) : Bool := decide (PySem.W.kitOne K (.ref (Hx.gl K "InvalidNumber")) (.ref (Hx.gl K "TooLarge")) = some false)
abbrev ck_179 (K : Hx.Fr) : Bool := decide (PySem.W.kitOne K (.ref (Hx.gl K "InvalidNumber")) (.ref (Hx.gl K "TooLong")) = some false)
abbrev ck_180 (K : Hx.Fr) : Bool := decide (PySem.W.kitOne K (.ref (Hx.gl K "InvalidNumber")) (.ref (Hx.gl K "TooManyProcesses")) = some false)
abbrev ck_181 (K : Hx.Fr) : Bool := decide (PySem.W.kitOne K (.ref (Hx.gl K "InvalidNumber")) (.type "ValueError") = some true)
abbrev ck_182 (K : Hx.Fr) : Bool := decide (PySem.W.findIn K (.ref (Hx.gl K "InvalidNumber")) "value" = some none)
abbrev ck_183 (K : Hx.Fr) : Bool := decide (PySem.W.findIn K (.ref (Hx.gl K "InvalidMode")) "__getattribute__" = some (some (.builtin "BaseException.__getattribute__")))
abbrev ck_184 (K : Hx.Fr) : Bool := decide (PySem.W.findIn K (.ref (Hx.gl K "InvalidMode")) "__getattr__" = some none)
abbrev ck_185 (K : Hx.Fr) : Bool := decide (PySem.W.hasDictIn K (Hx.gl K "InvalidMode") = true)
abbrev ck_186 (K : Hx.Fr) : Bool := decide (PySem.W.findIn K (.ref (Hx.gl K "InvalidMode")) "__class__" = some (some (.builtin "object.__class__")))
abbrev ck_187 (K : Hx.Fr) : Bool := decide (PySem.W.mroIn K (Hx.gl K "InvalidMode") (.type "object") = some true)
abbrev ck_188 (K : Hx.Fr) : Bool := decide (PySem.W.subIn K (.ref (Hx.gl K "InvalidMode")) (.ref (Hx.gl K "EchoError")) = some true)
abbrev ck_189 (K : Hx.Fr) : Bool := decide (PySem.W.subIn K (.ref (Hx.gl K "InvalidMode")) (.ref (Hx.gl K "SizeError")) = some false)
abbrev ck_190 (K : Hx.Fr) : Bool := decide (PySem.W.subIn K (.ref (Hx.gl K "InvalidMode")) (.ref (Hx.gl K "AbsentError")) = some false)
abbrev ck_191 (K : Hx.Fr) : Bool := decide (PySem.W.kitOne K (.ref (Hx.gl K "InvalidMode")) (.ref (Hx.gl K "DifferentModes")) = some false)
abbrev ck_192 (K : Hx.Fr) : Bool := decide (PySem.W.kitOne K (.ref (Hx.gl K "InvalidMode")) (.ref (Hx.gl K "InvalidCapacity")) = some false)
abbrev ck_193 (K : Hx.Fr) : Bool := decide (PySem.W.kitOne K (.ref (Hx.gl K "InvalidMode")) (.ref (Hx.gl K "InvalidMode")) = some true)
abbrev ck_194 (K : Hx.Fr) : Bool := decide (PySem.W.kitOne K (.ref (Hx.gl K "InvalidMode")) (.ref (Hx.gl K "InvalidNumber")) = some false)
abbrev ck_195 (K : Hx.Fr) : Bool := decide (PySem.W.kitOne K (.ref (Hx.gl K "InvalidMode")) (.ref (Hx.gl K "InvalidProgram")) = some false)
abbrev ck_196 (K : Hx.Fr) : Bool := decide (PySem.W.kitOne K (.ref (Hx.gl K "InvalidMode")) (.type "LookupError") = some false)
abbrev ck_197 (K : Hx.Fr) : Bool := decide (PySem.W.kitOne K (.ref (Hx.gl K "InvalidMode")) (.ref (Hx.gl K "NoPlace")) = some false)
abbrev ck_198 (K : Hx.Fr) : Bool := decide (PySem.W.kitOne K (.ref (Hx.gl K "InvalidMode")) (.ref (Hx.gl K "NoPoint")) = some false)
abbrev ck_199 (K : Hx.Fr) : Bool := decide (PySem.W.kitOne K (.ref (Hx.gl K "InvalidMode")) (.type "OverflowError") = some false)
abbrev ck_200 (K : Hx.Fr) : Bool := decide (PySem.W.kitOne K (.ref (Hx.gl K "InvalidMode")) (.ref (Hx.gl K "TooLarge")) = some false)
abbrev ck_201 (K : Hx.Fr) : Bool := decide (PySem.W.kitOne K (.ref (Hx.gl K "InvalidMode")) (.ref (Hx.gl K "TooLong")) = some false)
abbrev ck_202 (K : Hx.Fr) : Bool := decide (PySem.W.kitOne K (.ref (Hx.gl K "InvalidMode")) (.ref (Hx.gl K "TooManyProcesses")) = some false)
abbrev ck_203 (K : Hx.Fr) : Bool := decide (PySem.W.kitOne K (.ref (Hx.gl K "InvalidMode")) (.type "ValueError") = some true)
abbrev ck_204 (K : Hx.Fr) : Bool := decide (PySem.W.findIn K (.ref (Hx.gl K "InvalidMode")) "value" = some none)
abbrev ck_205 (K : Hx.Fr) : Bool := decide (PySem.W.findIn K (.ref (Hx.gl K "DifferentModes")) "__getattribute__" = some (some (.builtin "BaseException.__getattribute__")))
abbrev ck_206 (K : Hx.Fr) : Bool := decide (PySem.W.findIn K (.ref (Hx.gl K "DifferentModes")) "__getattr__" = some none)
abbrev ck_207 (K : Hx.Fr) : Bool := decide (PySem.W.hasDictIn K (Hx.gl K "DifferentModes") = true)
abbrev ck_208 (K : Hx.Fr) : Bool := decide (PySem.W.findIn K (.ref (Hx.gl K "DifferentModes")) "__class__" = some (some (.builtin "object.__class__")))
abbrev ck_209 (K : Hx.Fr) : Bool := decide (PySem.W.mroIn K (Hx.gl K "DifferentModes") (.type "object") = some true)
abbrev ck_210 (K : Hx.Fr) : Bool := decide (PySem.W.subIn K (.ref (Hx.gl K "DifferentModes")) (.ref (Hx.gl K "EchoError")) = some true)
abbrev ck_211 (K : Hx.Fr) : Bool := decide (PySem.W.subIn K (.ref (Hx.gl K "DifferentModes")) (.ref (Hx.gl K "SizeError")) = some false)
abbrev ck_212 (K : Hx.Fr) : Bool := decide (PySem.W.subIn K (.ref (Hx.gl K "DifferentModes")) (.ref (Hx.gl K "AbsentError")) = some false)
abbrev ck_213 (K : Hx.Fr) : Bool := decide (PySem.W.kitOne K (.ref (Hx.gl K "DifferentModes")) (.ref (Hx.gl K "DifferentModes")) = some true)
abbrev ck_214 (K : Hx.Fr) : Bool := decide (PySem.W.kitOne K (.ref (Hx.gl K "DifferentModes")) (.ref (Hx.gl K "InvalidCapacity")) = some false)
abbrev ck_215 (K : Hx.Fr) : Bool := decide (PySem.W.kitOne K (.ref (Hx.gl K "DifferentModes")) (.ref (Hx.gl K "InvalidMode")) = some false)
abbrev ck_216 (K : Hx.Fr) : Bool := decide (PySem.W.kitOne K (.ref (Hx.gl K "DifferentModes")) (.ref (Hx.gl K "InvalidNumber")) = some false)
abbrev ck_217 (K : Hx.Fr) : Bool := decide (PySem.W.kitOne K (.ref (Hx.gl K "DifferentModes")) (.ref (Hx.gl K "InvalidProgram")) = some false)
abbrev ck_218 (K : Hx.Fr) : Bool := decide (PySem.W.kitOne K (.ref (Hx.gl K "DifferentModes")) (.type "LookupError") = some false)
abbrev ck_219 (K : Hx.Fr) : Bool := decide (PySem.W.kitOne K (.ref (Hx.gl K "DifferentModes")) (.ref (Hx.gl K "NoPlace")) = some false)
abbrev ck_220 (K : Hx.Fr) : Bool := decide (PySem.W.kitOne K (.ref (Hx.gl K "DifferentModes")) (.ref (Hx.gl K "NoPoint")) = some false)
abbrev ck_221 (K : Hx.Fr) : Bool := decide (PySem.W.kitOne K (.ref (Hx.gl K "DifferentModes")) (.type "OverflowError") = some false)
abbrev ck_222 (K : Hx.Fr) : Bool := decide (PySem.W.kitOne K (.ref (Hx.gl K "DifferentModes")) (.ref (Hx.gl K "TooLarge")) = some false)
abbrev ck_223 (K : Hx.Fr) : Bool := decide (PySem.W.kitOne K (.ref (Hx.gl K "DifferentModes")) (.ref (Hx.gl K "TooLong")) = some false)
abbrev ck_224 (K : Hx.Fr) : Bool := decide (PySem.W.kitOne K (.ref (Hx.gl K "DifferentModes")) (.ref (Hx.gl K "TooManyProcesses")) = some false)
abbrev ck_225 (K : Hx.Fr) : Bool := decide (PySem.W.kitOne K (.ref (Hx.gl K "DifferentModes")) (.type "ValueError") = some true)
abbrev ck_226 (K : Hx.Fr) : Bool := decide (PySem.W.nsIn K mainGlobals "is_integer" = some (some (.ref (Hx.gl K "is_integer"))))
abbrev ck_227 (K : Hx.Fr) : Bool := decide (PySem.W.codeIn K (Hx.fv (·.code) K (Hx.gl K "is_integer")) "is_integer" = true)
abbrev ck_228 (K : Hx.Fr) : Bool := decide (PySem.W.keepIn K (.ref (Hx.gl K "is_integer")) = true)
abbrev ck_229 (K : Hx.Fr) : Bool := decide (PySem.W.nsIn K mainGlobals "is_between" = some (some (.ref (Hx.gl K "is_between"))))
abbrev ck_230 (K : Hx.Fr) : Bool := decide (PySem.W.codeIn K (Hx.fv (·.code) K (Hx.gl K "is_between")) "is_between" = true)
abbrev ck_231 (K : Hx.Fr) : Bool := decide (PySem.W.keepIn K (.ref (Hx.gl K "is_between")) = true)
abbrev ck_232 (K : Hx.Fr) : Bool := decide (PySem.W.nsIn K mainGlobals "is_head" = some (some (.ref (Hx.gl K "is_head"))))
abbrev ck_233 (K : Hx.Fr) : Bool := decide (PySem.W.codeIn K (Hx.fv (·.code) K (Hx.gl K "is_head")) "is_head" = true)
abbrev ck_234 (K : Hx.Fr) : Bool := decide (PySem.W.keepIn K (.ref (Hx.gl K "is_head")) = true)
abbrev ck_235 (K : Hx.Fr) : Bool := decide (PySem.W.nsIn K mainGlobals "inner_of" = some (some (.ref (Hx.gl K "inner_of"))))
abbrev ck_236 (K : Hx.Fr) : Bool := decide (PySem.W.codeIn K (Hx.fv (·.code) K (Hx.gl K "inner_of")) "inner_of" = true)
abbrev ck_237 (K : Hx.Fr) : Bool := decide (PySem.W.keepIn K (.ref (Hx.gl K "inner_of")) = true)
abbrev ck_238 (K : Hx.Fr) : Bool := decide (PySem.W.nsIn K mainGlobals "bytes_of" = some (some (.ref (Hx.gl K "bytes_of"))))
abbrev ck_239 (K : Hx.Fr) : Bool := decide (PySem.W.codeIn K (Hx.fv (·.code) K (Hx.gl K "bytes_of")) "bytes_of" = true)
abbrev ck_240 (K : Hx.Fr) : Bool := decide (PySem.W.keepIn K (.ref (Hx.gl K "bytes_of")) = true)
abbrev ck_241 (K : Hx.Fr) : Bool := decide (PySem.W.nsIn K mainGlobals "wrong_in" = some (some (.ref (Hx.gl K "wrong_in"))))
abbrev ck_242 (K : Hx.Fr) : Bool := decide (PySem.W.codeIn K (Hx.fv (·.code) K (Hx.gl K "wrong_in")) "wrong_in" = true)
abbrev ck_243 (K : Hx.Fr) : Bool := decide (PySem.W.keepIn K (.ref (Hx.gl K "wrong_in")) = true)
abbrev ck_244 (K : Hx.Fr) : Bool := decide (PySem.W.nsIn K mainGlobals "first_wrong" = some (some (.ref (Hx.gl K "first_wrong"))))
abbrev ck_245 (K : Hx.Fr) : Bool := decide (PySem.W.codeIn K (Hx.fv (·.code) K (Hx.gl K "first_wrong")) "first_wrong" = true)
abbrev ck_246 (K : Hx.Fr) : Bool := decide (PySem.W.keepIn K (.ref (Hx.gl K "first_wrong")) = true)
abbrev ck_247 (K : Hx.Fr) : Bool := decide (PySem.W.nsIn K mainGlobals "size_in" = some (some (.ref (Hx.gl K "size_in"))))
abbrev ck_248 (K : Hx.Fr) : Bool := decide (PySem.W.codeIn K (Hx.fv (·.code) K (Hx.gl K "size_in")) "size_in" = true)
abbrev ck_249 (K : Hx.Fr) : Bool := decide (PySem.W.keepIn K (.ref (Hx.gl K "size_in")) = true)
abbrev ck_250 (K : Hx.Fr) : Bool := decide (PySem.W.nsIn K mainGlobals "bytes_in" = some (some (.ref (Hx.gl K "bytes_in"))))
abbrev ck_251 (K : Hx.Fr) : Bool := decide (PySem.W.codeIn K (Hx.fv (·.code) K (Hx.gl K "bytes_in")) "bytes_in" = true)
abbrev ck_252 (K : Hx.Fr) : Bool := decide (PySem.W.keepIn K (.ref (Hx.gl K "bytes_in")) = true)
abbrev ck_253 (K : Hx.Fr) : Bool := decide (PySem.W.nsIn K mainGlobals "reach_in" = some (some (.ref (Hx.gl K "reach_in"))))
abbrev ck_254 (K : Hx.Fr) : Bool := decide (PySem.W.codeIn K (Hx.fv (·.code) K (Hx.gl K "reach_in")) "reach_in" = true)
abbrev ck_255 (K : Hx.Fr) : Bool := decide (PySem.W.keepIn K (.ref (Hx.gl K "reach_in")) = true)
abbrev ck_256 (K : Hx.Fr) : Bool := decide (PySem.W.findIn K (.ref (Hx.gl K "LineProgram")) "__init__" = some (some (.ref (Hx.me K (Hx.gl K "LineProgram") "__init__"))))
abbrev ck_257 (K : Hx.Fr) : Bool := decide (PySem.W.findIn K (.ref (Hx.gl K "Program")) "__init__" = some (some (.ref (Hx.me K (Hx.gl K "LineProgram") "__init__"))))
abbrev ck_258 (K : Hx.Fr) : Bool := decide (PySem.W.isFn K (.ref (Hx.me K (Hx.gl K "LineProgram") "__init__")) = true)
abbrev ck_259 (K : Hx.Fr) : Bool := decide (PySem.W.fnIn K (Hx.me K (Hx.gl K "LineProgram") "__init__") = true)
abbrev ck_260 (K : Hx.Fr) : Bool := decide (PySem.W.codeIn K (Hx.fv (·.code) K (Hx.me K (Hx.gl K "LineProgram") "__init__")) "Program.__init__" = true)
abbrev ck_261 (K : Hx.Fr) : Bool := decide (PySem.W.keepIn K (.ref (Hx.me K (Hx.gl K "LineProgram") "__init__")) = true)
abbrev ck_262 (K : Hx.Fr) : Bool := decide (PySem.W.readsIn K (Hx.gl K "LineProgram") (.type "type") = true)
abbrev ck_263 (K : Hx.Fr) : Bool := decide (PySem.W.specialIn K (.ref (Hx.gl K "LineProgram")) "__getattribute__" = some (some (.builtin "type.__getattribute__")))
abbrev ck_264 (K : Hx.Fr) : Bool := Hx.clsOk K (Hx.gl K "LineProgram") (Hx.cm K (Hx.gl K "LineProgram") "of") "of"
abbrev ck_265 (K : Hx.Fr) : Bool := decide (PySem.W.readsIn K (Hx.gl K "Program") (.type "type") = true)
abbrev ck_266 (K : Hx.Fr) : Bool := decide (PySem.W.specialIn K (.ref (Hx.gl K "Program")) "__getattribute__" = some (some (.builtin "type.__getattribute__")))
abbrev ck_267 (K : Hx.Fr) : Bool := Hx.clsOk K (Hx.gl K "Program") (Hx.cm K (Hx.gl K "LineProgram") "of") "of"
abbrev ck_268 (K : Hx.Fr) : Bool := decide (PySem.W.recIn K (Hx.cm K (Hx.gl K "LineProgram") "of") "classmethod" = some (.ref (Hx.rh K (Hx.cm K (Hx.gl K "LineProgram") "of") "classmethod") :: (Hx.rt K (Hx.cm K (Hx.gl K "LineProgram") "of") "classmethod")))
abbrev ck_269 (K : Hx.Fr) : Bool := decide (PySem.W.fnIn K (Hx.rh K (Hx.cm K (Hx.gl K "LineProgram") "of") "classmethod") = true)
abbrev ck_270 (K : Hx.Fr) : Bool := decide (PySem.W.codeIn K (Hx.fv (·.code) K (Hx.rh K (Hx.cm K (Hx.gl K "LineProgram") "of") "classmethod")) "Program.of" = true)
abbrev ck_271 (K : Hx.Fr) : Bool := decide (PySem.W.keepIn K (.ref (Hx.rh K (Hx.cm K (Hx.gl K "LineProgram") "of") "classmethod")) = true)
abbrev ck_272 (K : Hx.Fr) : Bool := decide (PySem.W.findIn K (.ref (Hx.gl K "LineProgram")) "size" = some (some (.ref (Hx.me K (Hx.gl K "LineProgram") "size"))))
abbrev ck_273 (K : Hx.Fr) : Bool := decide (PySem.W.findIn K (.ref (Hx.gl K "Program")) "size" = some (some (.ref (Hx.me K (Hx.gl K "LineProgram") "size"))))
abbrev ck_274 (K : Hx.Fr) : Bool := decide (PySem.W.specialIn K (.ref (Hx.me K (Hx.gl K "LineProgram") "size")) "__get__" = some (some (.builtin "property.__get__")))
abbrev ck_275 (K : Hx.Fr) : Bool := decide (PySem.W.takesIn K (.ref (Hx.me K (Hx.gl K "LineProgram") "size")) = some true)
abbrev ck_276 (K : Hx.Fr) : Bool := decide (PySem.W.recIn K (Hx.me K (Hx.gl K "LineProgram") "size") "property" = some (.ref (Hx.rh K (Hx.me K (Hx.gl K "LineProgram") "size") "property") :: (Hx.rt K (Hx.me K (Hx.gl K "LineProgram") "size") "property")))
abbrev ck_277 (K : Hx.Fr) : Bool := decide (PySem.W.codeIn K (Hx.fv (·.code) K (Hx.rh K (Hx.me K (Hx.gl K "LineProgram") "size") "property")) "Program.size" = true)
abbrev ck_278 (K : Hx.Fr) : Bool := decide (PySem.W.keepIn K (.ref (Hx.rh K (Hx.me K (Hx.gl K "LineProgram") "size") "property")) = true)
abbrev ck_279 (K : Hx.Fr) : Bool := decide (PySem.W.findIn K (.ref (Hx.gl K "LineProgram")) "reach" = some (some (.ref (Hx.me K (Hx.gl K "LineProgram") "reach"))))
abbrev ck_280 (K : Hx.Fr) : Bool := decide (PySem.W.findIn K (.ref (Hx.gl K "Program")) "reach" = some (some (.ref (Hx.me K (Hx.gl K "LineProgram") "reach"))))
abbrev ck_281 (K : Hx.Fr) : Bool := decide (PySem.W.specialIn K (.ref (Hx.me K (Hx.gl K "LineProgram") "reach")) "__get__" = some (some (.builtin "property.__get__")))
abbrev ck_282 (K : Hx.Fr) : Bool := decide (PySem.W.takesIn K (.ref (Hx.me K (Hx.gl K "LineProgram") "reach")) = some true)
abbrev ck_283 (K : Hx.Fr) : Bool := decide (PySem.W.recIn K (Hx.me K (Hx.gl K "LineProgram") "reach") "property" = some (.ref (Hx.rh K (Hx.me K (Hx.gl K "LineProgram") "reach") "property") :: (Hx.rt K (Hx.me K (Hx.gl K "LineProgram") "reach") "property")))
abbrev ck_284 (K : Hx.Fr) : Bool := decide (PySem.W.codeIn K (Hx.fv (·.code) K (Hx.rh K (Hx.me K (Hx.gl K "LineProgram") "reach") "property")) "Program.reach" = true)
abbrev ck_285 (K : Hx.Fr) : Bool := decide (PySem.W.keepIn K (.ref (Hx.rh K (Hx.me K (Hx.gl K "LineProgram") "reach") "property")) = true)
abbrev ck_286 (K : Hx.Fr) : Bool := decide (PySem.W.nsIn K mainGlobals "_law_pen" = some (some (.ref (Hx.gl K "_law_pen"))))
abbrev ck_287 (K : Hx.Fr) : Bool := decide (PySem.W.codeIn K (Hx.fv (·.code) K (Hx.gl K "_law_pen")) "_law_pen" = true)
abbrev ck_288 (K : Hx.Fr) : Bool := decide (PySem.W.keepIn K (.ref (Hx.gl K "_law_pen")) = true)
abbrev ck_289 (K : Hx.Fr) : Bool := decide (PySem.W.nsIn K mainGlobals "_law_draw" = some (some (.ref (Hx.gl K "_law_draw"))))
abbrev ck_290 (K : Hx.Fr) : Bool := decide (PySem.W.codeIn K (Hx.fv (·.code) K (Hx.gl K "_law_draw")) "_law_draw" = true)
abbrev ck_291 (K : Hx.Fr) : Bool := decide (PySem.W.keepIn K (.ref (Hx.gl K "_law_draw")) = true)
abbrev ck_292 (K : Hx.Fr) : Bool := decide (PySem.W.nsIn K mainGlobals "_law_heard" = some (some (.ref (Hx.gl K "_law_heard"))))
abbrev ck_293 (K : Hx.Fr) : Bool := decide (PySem.W.codeIn K (Hx.fv (·.code) K (Hx.gl K "_law_heard")) "_law_heard" = true)
abbrev ck_294 (K : Hx.Fr) : Bool := decide (PySem.W.keepIn K (.ref (Hx.gl K "_law_heard")) = true)
abbrev ck_295 (K : Hx.Fr) : Bool := decide (PySem.W.nsIn K mainGlobals "_law_told" = some (some (.ref (Hx.gl K "_law_told"))))
abbrev ck_296 (K : Hx.Fr) : Bool := decide (Hx.fv (·.code) K (Hx.gl K "_law_told") = .ref (Hx.cA K (Hx.gl K "_law_told")))
abbrev ck_297 (K : Hx.Fr) : Bool := decide (PySem.W.codeIn K (.ref (Hx.cA K (Hx.gl K "_law_told"))) "_law_told" = true)
abbrev ck_298 (K : Hx.Fr) : Bool := decide (PySem.W.keepIn K (.ref (Hx.gl K "_law_told")) = true)
abbrev ck_299 (K : Hx.Fr) : Bool := Hx.flOk K (Hx.cA K (Hx.gl K "_law_told"))
abbrev ck_300 (K : Hx.Fr) : Bool := decide ((Hx.fl K (Hx.cA K (Hx.gl K "_law_told")))[11]? = some (.ref (Hx.r11 K (Hx.cA K (Hx.gl K "_law_told")))))
abbrev ck_301 (K : Hx.Fr) : Bool := (K.lookup (Hx.r11 K (Hx.cA K (Hx.gl K "_law_told")))).isNone
abbrev ck_302 (K : Hx.Fr) : Bool := decide (PySem.W.nsIn K mainGlobals "_law_actions_right" = some (some (.ref (Hx.gl K "_law_actions_right"))))
abbrev ck_303 (K : Hx.Fr) : Bool := decide (PySem.W.codeIn K (Hx.fv (·.code) K (Hx.gl K "_law_actions_right")) "_law_actions_right" = true)
abbrev ck_304 (K : Hx.Fr) : Bool := decide (PySem.W.keepIn K (.ref (Hx.gl K "_law_actions_right")) = true)
abbrev ck_305 (K : Hx.Fr) : Bool := decide (PySem.W.nsIn K mainGlobals "_law_depth_right" = some (some (.ref (Hx.gl K "_law_depth_right"))))
abbrev ck_306 (K : Hx.Fr) : Bool := decide (PySem.W.codeIn K (Hx.fv (·.code) K (Hx.gl K "_law_depth_right")) "_law_depth_right" = true)
abbrev ck_307 (K : Hx.Fr) : Bool := decide (PySem.W.keepIn K (.ref (Hx.gl K "_law_depth_right")) = true)
abbrev ck_308 (K : Hx.Fr) : Bool := decide (PySem.W.nsIn K mainGlobals "_law_points_right" = some (some (.ref (Hx.gl K "_law_points_right"))))
abbrev ck_309 (K : Hx.Fr) : Bool := decide (PySem.W.codeIn K (Hx.fv (·.code) K (Hx.gl K "_law_points_right")) "_law_points_right" = true)
abbrev ck_310 (K : Hx.Fr) : Bool := decide (PySem.W.keepIn K (.ref (Hx.gl K "_law_points_right")) = true)
abbrev ck_311 (K : Hx.Fr) : Bool := decide (PySem.W.nsIn K mainGlobals "_law_bytes_right" = some (some (.ref (Hx.gl K "_law_bytes_right"))))
abbrev ck_312 (K : Hx.Fr) : Bool := decide (PySem.W.codeIn K (Hx.fv (·.code) K (Hx.gl K "_law_bytes_right")) "_law_bytes_right" = true)
abbrev ck_313 (K : Hx.Fr) : Bool := decide (PySem.W.keepIn K (.ref (Hx.gl K "_law_bytes_right")) = true)
abbrev ck_314 (K : Hx.Fr) : Bool := decide (PySem.W.nsIn K mainGlobals "_law_order_right" = some (some (.ref (Hx.gl K "_law_order_right"))))
abbrev ck_315 (K : Hx.Fr) : Bool := decide (PySem.W.codeIn K (Hx.fv (·.code) K (Hx.gl K "_law_order_right")) "_law_order_right" = true)
abbrev ck_316 (K : Hx.Fr) : Bool := decide (PySem.W.keepIn K (.ref (Hx.gl K "_law_order_right")) = true)
abbrev ck_317 (K : Hx.Fr) : Bool := decide (PySem.W.nsIn K mainGlobals "law" = some (some (.ref (Hx.gl K "law"))))
abbrev ck_318 (K : Hx.Fr) : Bool := decide (PySem.W.codeIn K (Hx.fv (·.code) K (Hx.gl K "law")) "law" = true)
abbrev ck_319 (K : Hx.Fr) : Bool := decide (PySem.W.keepIn K (.ref (Hx.gl K "law")) = true)
abbrev ck_320 (K : Hx.Fr) : Bool := decide (PySem.W.codeIn K (Hx.fv (·.code) K (Hx.me K (Hx.gl K "InvalidProgram") "__init__")) "InvalidProgram.__init__" = true)
abbrev ck_321 (K : Hx.Fr) : Bool := decide (PySem.W.keepIn K (.ref (Hx.me K (Hx.gl K "InvalidProgram") "__init__")) = true)
abbrev ck_322 (K : Hx.Fr) : Bool := decide (PySem.W.codeIn K (Hx.fv (·.code) K (Hx.me K (Hx.gl K "TooLarge") "__init__")) "TooLarge.__init__" = true)
abbrev ck_323 (K : Hx.Fr) : Bool := decide (PySem.W.keepIn K (.ref (Hx.me K (Hx.gl K "TooLarge") "__init__")) = true)
abbrev ck_324 (K : Hx.Fr) : Bool := decide (PySem.W.codeIn K (Hx.fv (·.code) K (Hx.me K (Hx.gl K "TooLong") "__init__")) "TooLong.__init__" = true)
abbrev ck_325 (K : Hx.Fr) : Bool := decide (PySem.W.keepIn K (.ref (Hx.me K (Hx.gl K "TooLong") "__init__")) = true)
abbrev ck_326 (K : Hx.Fr) : Bool := decide (PySem.W.nsIn K mainGlobals "LookupError" = some none)
abbrev ck_327 (K : Hx.Fr) : Bool := decide (PySem.W.nsIn K mainGlobals "OverflowError" = some none)
abbrev ck_328 (K : Hx.Fr) : Bool := decide (PySem.W.nsIn K mainGlobals "ValueError" = some none)
abbrev ck_329 (K : Hx.Fr) : Bool := decide (PySem.W.nsIn K mainGlobals "abs" = some none)
abbrev ck_330 (K : Hx.Fr) : Bool := decide (PySem.W.nsIn K mainGlobals "bool" = some none)
abbrev ck_331 (K : Hx.Fr) : Bool := decide (PySem.W.nsIn K mainGlobals "enumerate" = some none)
abbrev ck_332 (K : Hx.Fr) : Bool := decide (PySem.W.nsIn K mainGlobals "int" = some none)
abbrev ck_333 (K : Hx.Fr) : Bool := decide (PySem.W.nsIn K mainGlobals "isinstance" = some none)
abbrev ck_334 (K : Hx.Fr) : Bool := decide (PySem.W.nsIn K mainGlobals "len" = some none)
abbrev ck_335 (K : Hx.Fr) : Bool := decide (PySem.W.nsIn K mainGlobals "list" = some none)
abbrev ck_336 (K : Hx.Fr) : Bool := decide (PySem.W.nsIn K mainGlobals "max" = some none)
abbrev ck_337 (K : Hx.Fr) : Bool := decide (PySem.W.nsIn K mainGlobals "min" = some none)
abbrev ck_338 (K : Hx.Fr) : Bool := decide (PySem.W.nsIn K mainGlobals "range" = some none)
abbrev ck_339 (K : Hx.Fr) : Bool := decide (PySem.W.nsIn K mainGlobals "str" = some none)
abbrev ck_340 (K : Hx.Fr) : Bool := decide (PySem.W.nsIn K mainGlobals "tuple" = some none)
abbrev ck_341 (K : Hx.Fr) : Bool := decide (PySem.W.nsIn K mainGlobals "BARE" = some (some (Value.ref (Hx.gl K "BARE"))))
abbrev ck_342 (K : Hx.Fr) : Bool := Hx.seqOk K (Hx.gl K "BARE") "tuple"
abbrev ck_343 (K : Hx.Fr) : Bool := decide ((Hx.its K (Hx.gl K "BARE")).size ≤ 1000)
abbrev ck_344 (K : Hx.Fr) : Bool := decide (strsOf (Hx.its K (Hx.gl K "BARE")).toList = some [("line" : Str), ("flush" : Str), ("drop" : Str), ("both" : Str), ("exit" : Str), ("quit" : Str)])
abbrev ck_345 (K : Hx.Fr) : Bool := decide (PySem.W.nsIn K mainGlobals "FORK" = some (some (Value.str "fork" (Hx.tk (PySem.W.nsIn K mainGlobals "FORK")))))
abbrev ck_346 (K : Hx.Fr) : Bool := decide (PySem.W.nsIn K mainGlobals "LINE" = some (some (Value.str "line" (Hx.tk (PySem.W.nsIn K mainGlobals "LINE")))))
abbrev ck_347 (K : Hx.Fr) : Bool := decide (PySem.W.nsIn K mainGlobals "MOST_ACTIONS" = some (some (Value.int 300 (Hx.tk (PySem.W.nsIn K mainGlobals "MOST_ACTIONS")))))
abbrev ck_348 (K : Hx.Fr) : Bool := decide (PySem.W.nsIn K mainGlobals "MOST_BYTES" = some (some (Value.int 2000 (Hx.tk (PySem.W.nsIn K mainGlobals "MOST_BYTES")))))
abbrev ck_349 (K : Hx.Fr) : Bool := decide (PySem.W.nsIn K mainGlobals "MOST_BYTES_HERE" = some (some (Value.int 2000 (Hx.tk (PySem.W.nsIn K mainGlobals "MOST_BYTES_HERE")))))
abbrev ck_350 (K : Hx.Fr) : Bool := decide (PySem.W.nsIn K mainGlobals "MOST_DEPTH" = some (some (Value.int 6 (Hx.tk (PySem.W.nsIn K mainGlobals "MOST_DEPTH")))))
abbrev ck_351 (K : Hx.Fr) : Bool := decide (PySem.W.nsIn K mainGlobals "MOST_POINTS_HERE" = some (some (Value.int 2000 (Hx.tk (PySem.W.nsIn K mainGlobals "MOST_POINTS_HERE")))))
abbrev ck_352 (K : Hx.Fr) : Bool := decide (PySem.W.nsIn K mainGlobals "MOST_TURNS" = some (some (Value.int 300 (Hx.tk (PySem.W.nsIn K mainGlobals "MOST_TURNS")))))
abbrev ck_353 (K : Hx.Fr) : Bool := decide (PySem.W.nsIn K mainGlobals "REPEAT" = some (some (Value.str "repeat" (Hx.tk (PySem.W.nsIn K mainGlobals "REPEAT")))))
abbrev ck_354 (K : Hx.Fr) : Bool := decide (PySem.W.nsIn K mainGlobals "WRITE" = some (some (Value.str "write" (Hx.tk (PySem.W.nsIn K mainGlobals "WRITE")))))
noncomputable def cks_0 : List (Hx.Fr → Bool) := [ck_0, ck_1, ck_2, ck_3, ck_4, ck_5, ck_6, ck_7, ck_8, ck_9, ck_10, ck_11, ck_12, ck_13, ck_14, ck_15, ck_16, ck_17, ck_18, ck_19, ck_20, ck_21, ck_22, ck_23, ck_24, ck_25, ck_26, ck_27, ck_28, ck_29, ck_30, ck_31, ck_32, ck_33, ck_34, ck_35, ck_36, ck_37, ck_38, ck_39]
noncomputable def cks_1 : List (Hx.Fr → Bool) := [ck_40, ck_41, ck_42, ck_43, ck_44, ck_45, ck_46, ck_47, ck_48, ck_49, ck_50, ck_51, ck_52, ck_53, ck_54, ck_55, ck_56, ck_57, ck_58, ck_59, ck_60, ck_61, ck_62, ck_63, ck_64, ck_65, ck_66, ck_67, ck_68, ck_69, ck_70, ck_71, ck_72, ck_73, ck_74, ck_75, ck_76, ck_77, ck_78, ck_79]
noncomputable def cks_2 : List (Hx.Fr → Bool) := [ck_80, ck_81, ck_82, ck_83, ck_84, ck_85, ck_86, ck_87, ck_88, ck_89, ck_90, ck_91, ck_92, ck_93, ck_94, ck_95, ck_96, ck_97, ck_98, ck_99, ck_100, ck_101, ck_102, ck_103, ck_104, ck_105, ck_106, ck_107, ck_108, ck_109, ck_110, ck_111, ck_112, ck_113, ck_114, ck_115, ck_116, ck_117, ck_118, ck_119]
noncomputable def cks_3 : List (Hx.Fr → Bool) := [ck_120, ck_121, ck_122, ck_123, ck_124, ck_125, ck_126, ck_127, ck_128, ck_129, ck_130, ck_131, ck_132, ck_133, ck_134, ck_135, ck_136, ck_137, ck_138, ck_139, ck_140, ck_141, ck_142, ck_143, ck_144, ck_145, ck_146, ck_147, ck_148, ck_149, ck_150, ck_151, ck_152, ck_153, ck_154, ck_155, ck_156, ck_157, ck_158, ck_159]
noncomputable def cks_4 : List (Hx.Fr → Bool) := [ck_160, ck_161, ck_162, ck_163, ck_164, ck_165, ck_166, ck_167, ck_168, ck_169, ck_170, ck_171, ck_172, ck_173, ck_174, ck_175, ck_176, ck_177, ck_178, ck_179, ck_180, ck_181, ck_182, ck_183, ck_184, ck_185, ck_186, ck_187, ck_188, ck_189, ck_190, ck_191, ck_192, ck_193, ck_194, ck_195, ck_196, ck_197, ck_198, ck_199]
noncomputable def cks_5 : List (Hx.Fr → Bool) := [ck_200, ck_201, ck_202, ck_203, ck_204, ck_205, ck_206, ck_207, ck_208, ck_209, ck_210, ck_211, ck_212, ck_213, ck_214, ck_215, ck_216, ck_217, ck_218, ck_219, ck_220, ck_221, ck_222, ck_223, ck_224, ck_225, ck_226, ck_227, ck_228, ck_229, ck_230, ck_231, ck_232, ck_233, ck_234, ck_235, ck_236, ck_237, ck_238, ck_239]
noncomputable def cks_6 : List (Hx.Fr → Bool) := [ck_240, ck_241, ck_242, ck_243, ck_244, ck_245, ck_246, ck_247, ck_248, ck_249, ck_250, ck_251, ck_252, ck_253, ck_254, ck_255, ck_256, ck_257, ck_258, ck_259, ck_260, ck_261, ck_262, ck_263, ck_264, ck_265, ck_266, ck_267, ck_268, ck_269, ck_270, ck_271, ck_272, ck_273, ck_274, ck_275, ck_276, ck_277, ck_278, ck_279]
noncomputable def cks_7 : List (Hx.Fr → Bool) := [ck_280, ck_281, ck_282, ck_283, ck_284, ck_285, ck_286, ck_287, ck_288, ck_289, ck_290, ck_291, ck_292, ck_293, ck_294, ck_295, ck_296, ck_297, ck_298, ck_299, ck_300, ck_301, ck_302, ck_303, ck_304, ck_305, ck_306, ck_307, ck_308, ck_309, ck_310, ck_311, ck_312, ck_313, ck_314, ck_315, ck_316, ck_317, ck_318, ck_319]
noncomputable def cks_8 : List (Hx.Fr → Bool) := [ck_320, ck_321, ck_322, ck_323, ck_324, ck_325, ck_326, ck_327, ck_328, ck_329, ck_330, ck_331, ck_332, ck_333, ck_334, ck_335, ck_336, ck_337, ck_338, ck_339, ck_340, ck_341, ck_342, ck_343, ck_344, ck_345, ck_346, ck_347, ck_348, ck_349, ck_350, ck_351, ck_352, ck_353, ck_354]
noncomputable def ct_0 : List (List (Hx.Fr → Bool)) := [cks_0, cks_1, cks_2]
noncomputable def ct_1 : List (List (Hx.Fr → Bool)) := [cks_3, cks_4, cks_5]
noncomputable def ct_2 : List (List (Hx.Fr → Bool)) := [cks_6, cks_7, cks_8]
noncomputable abbrev cks : List (List (Hx.Fr → Bool)) := (ct_0 ++ (ct_1 ++ ct_2))
noncomputable def fn_0 : Hx.FnX := ⟨fun K => (Hx.gl K "is_integer"), "is_integer", "is_integer", s_is_integer, false⟩
noncomputable def fn_1 : Hx.FnX := ⟨fun K => (Hx.gl K "is_between"), "is_between", "is_between", s_is_between, false⟩
noncomputable def fn_2 : Hx.FnX := ⟨fun K => (Hx.gl K "is_head"), "is_head", "is_head", s_is_head, false⟩
noncomputable def fn_3 : Hx.FnX := ⟨fun K => (Hx.gl K "inner_of"), "inner_of", "inner_of", s_inner_of, false⟩
noncomputable def fn_4 : Hx.FnX := ⟨fun K => (Hx.gl K "bytes_of"), "bytes_of", "bytes_of", s_bytes_of, false⟩
noncomputable def fn_5 : Hx.FnX := ⟨fun K => (Hx.gl K "wrong_in"), "wrong_in", "wrong_in", s_wrong_in, false⟩
noncomputable def fn_6 : Hx.FnX := ⟨fun K => (Hx.gl K "first_wrong"), "first_wrong", "first_wrong", s_first_wrong, false⟩
noncomputable def fn_7 : Hx.FnX := ⟨fun K => (Hx.gl K "size_in"), "size_in", "size_in", s_size_in, false⟩
noncomputable def fn_8 : Hx.FnX := ⟨fun K => (Hx.gl K "bytes_in"), "bytes_in", "bytes_in", s_bytes_in, false⟩
noncomputable def fn_9 : Hx.FnX := ⟨fun K => (Hx.gl K "reach_in"), "reach_in", "reach_in", s_reach_in, false⟩
noncomputable def fn_10 : Hx.FnX := ⟨fun K => (Hx.me K (Hx.gl K "LineProgram") "__init__"), "__init__", "Program.__init__", s_Program___init__, false⟩
noncomputable def fn_11 : Hx.FnX := ⟨fun K => (Hx.rh K (Hx.cm K (Hx.gl K "LineProgram") "of") "classmethod"), "of", "Program.of", s_Program_of, false⟩
noncomputable def fn_12 : Hx.FnX := ⟨fun K => (Hx.rh K (Hx.me K (Hx.gl K "LineProgram") "size") "property"), "size", "Program.size", s_Program_size, false⟩
noncomputable def fn_13 : Hx.FnX := ⟨fun K => (Hx.rh K (Hx.me K (Hx.gl K "LineProgram") "reach") "property"), "reach", "Program.reach", s_Program_reach, false⟩
noncomputable def fn_14 : Hx.FnX := ⟨fun K => (Hx.gl K "_law_pen"), "_law_pen", "_law_pen", s__law_pen, false⟩
noncomputable def fn_15 : Hx.FnX := ⟨fun K => (Hx.gl K "_law_draw"), "_law_draw", "_law_draw", s__law_draw, false⟩
noncomputable def fn_16 : Hx.FnX := ⟨fun K => (Hx.gl K "_law_heard"), "_law_heard", "_law_heard", s__law_heard, false⟩
noncomputable def fn_17 : Hx.FnX := ⟨fun K => (Hx.gl K "_law_told"), "_law_told", "_law_told", s__law_told, false⟩
noncomputable def fn_18 : Hx.FnX := ⟨fun K => (Hx.gl K "_law_actions_right"), "_law_actions_right", "_law_actions_right", s__law_actions_right, false⟩
noncomputable def fn_19 : Hx.FnX := ⟨fun K => (Hx.gl K "_law_depth_right"), "_law_depth_right", "_law_depth_right", s__law_depth_right, false⟩
noncomputable def fn_20 : Hx.FnX := ⟨fun K => (Hx.gl K "_law_points_right"), "_law_points_right", "_law_points_right", s__law_points_right, false⟩
noncomputable def fn_21 : Hx.FnX := ⟨fun K => (Hx.gl K "_law_bytes_right"), "_law_bytes_right", "_law_bytes_right", s__law_bytes_right, false⟩
noncomputable def fn_22 : Hx.FnX := ⟨fun K => (Hx.gl K "_law_order_right"), "_law_order_right", "_law_order_right", s__law_order_right, false⟩
noncomputable def fn_23 : Hx.FnX := ⟨fun K => (Hx.gl K "law"), "law", "law", s_law, false⟩
noncomputable def fn_24 : Hx.FnX := ⟨fun K => (Hx.me K (Hx.gl K "InvalidProgram") "__init__"), "__init__", "InvalidProgram.__init__", s_InvalidProgram___init__, false⟩
noncomputable def fn_25 : Hx.FnX := ⟨fun K => (Hx.me K (Hx.gl K "TooLarge") "__init__"), "__init__", "TooLarge.__init__", s_TooLarge___init__, false⟩
noncomputable def fn_26 : Hx.FnX := ⟨fun K => (Hx.me K (Hx.gl K "TooLong") "__init__"), "__init__", "TooLong.__init__", s_TooLong___init__, false⟩
noncomputable def fns : List Hx.FnX := [fn_0, fn_1, fn_2, fn_3, fn_4, fn_5, fn_6, fn_7, fn_8, fn_9, fn_10, fn_11, fn_12, fn_13, fn_14, fn_15, fn_16, fn_17, fn_18, fn_19, fn_20, fn_21, fn_22, fn_23, fn_24, fn_25, fn_26]
abbrev Rw : PySem.W.OpenRow := PySem.W.OpenLaw.row PySem.Challenge.rw_forkecho_k03_bounds_of_programs
noncomputable abbrev hk : PySem.W.Hook := Hx.hookX 3000 [] cks fns
noncomputable abbrev ob : PySem.W.SharedT → Hx.AlX := Hx.obT 3000 [] cks fns
theorem ob_eq (s : PySem.W.SharedT) : ob s = hk.obs s.abs := Hx.obT_eq s
def names : List Str := (Rw.prog.main.scope.names.map (·.1)).filter fun x => x != "_law_told" && x != "law" && x != "__name__"
set_option maxHeartbeats 0 in
theorem run_b (w : World) : HandSHeadRun.RunEq Rw (PySem.W.view Rw.prog [75, 81]) (Hx.hookX 3000 [] [] []) (Hx.obT 3000 [] [] []) 100000 names w := by
  intro os
  kernel_rfl
set_option maxHeartbeats 0 in
theorem run_0 (w : World) : Hx.RunO Rw (PySem.W.view Rw.prog [75, 81]) (Hx.hookX 3000 [] ct_0 []) (Hx.obT 3000 [] ct_0 []) 100000 w := by
  intro os
  kernel_rfl
set_option maxHeartbeats 0 in
theorem run_1 (w : World) : Hx.RunO Rw (PySem.W.view Rw.prog [75, 81]) (Hx.hookX 3000 [] ct_1 []) (Hx.obT 3000 [] ct_1 []) 100000 w := by
  intro os
  kernel_rfl
set_option maxHeartbeats 0 in
theorem run_2 (w : World) : Hx.RunO Rw (PySem.W.view Rw.prog [75, 81]) (Hx.hookX 3000 [] ct_2 fns) (Hx.obT 3000 [] ct_2 fns) 100000 w := by
  intro os
  kernel_rfl
theorem run (w : World) : HandSHeadRun.RunEq Rw (PySem.W.view Rw.prog [75, 81]) hk ob 100000 names w := Hx.run_base (run_b w) (Hx.runO_join (run_0 w) (Hx.runO_join (run_1 w) (run_2 w)))
end K03
namespace DL
open PySem PySem.Spec L2 C8
/-! ### how the readings unfold -/
section
variable {ρ : EnvD} {h : AH} {Q : KD} {X : KX} {D0 : EndsD} {a b c : WE} {s1 s2 : WS} {t u : WT} {i j : Int} {m : Bool} {xs : List D} {d x y z : D}
theorem u_seq : wSeq s1 s2 D0 ρ h = s1 { D0 with nx := s2 D0 } ρ h := rfl
theorem u_asg {g : WG} : wAsg a g D0 ρ h = a ρ h (fun x h1 => g x ρ h1 D0.nx D0.ex) D0.ex := rfl
theorem u_gN {n : Nat} {Q : EnvD → AH → Prop} : gN n d ρ h Q X = Q (ρ.set n (some d)) h := rfl
theorem u_ret : wRet a D0 ρ h = a ρ h D0.rt D0.ex := rfl
theorem u_retN : wRetN D0 ρ h = D0.rt .non h := rfl
theorem u_skip : wSkip D0 ρ h = D0.nx ρ h := rfl
theorem u_expr : wExpr a D0 ρ h = a ρ h (fun _ h1 => D0.nx ρ h1) D0.ex := rfl
theorem u_ifs : wIfS t s1 s2 D0 ρ h = t ρ h (fun c h1 => if c = true then s1 D0 ρ h1 else s2 D0 ρ h1) D0.ex := rfl
theorem u_c : wC d ρ h Q X = Q d h := rfl
theorem u_var {n : Nat} (e : ρ[n]? = some (some d)) : wVar n ρ h Q X = Q d h := by simp [wVar, e]
theorem u_op {f : D → D → AH → KD → Prop} : wOp f a b ρ h Q X = a ρ h (fun x h1 => b ρ h1 (fun y h2 => f x y h2 Q) X) X := rfl
theorem u_neg : wNeg a ρ h Q X = a ρ h (fun x h1 => match x with
  | .int i => Q (.int (-i)) h1
  | _ => False) X := rfl
theorem u_test {Q : Bool → AH → Prop} : wTest a ρ h Q X = a ρ h (fun x h1 => match x with
  | .bl b => Q b h1
  | _ => False) X := rfl
theorem u_and {Q : Bool → AH → Prop} : wAnd t u ρ h Q X = t ρ h (fun c h1 => if c = true then u ρ h1 Q X else Q false h1) X := rfl
theorem u_or {Q : Bool → AH → Prop} : wOr t u ρ h Q X = t ρ h (fun c h1 => if c = true then Q true h1 else u ρ h1 Q X) X := rfl
theorem u_not {Q : Bool → AH → Prop} : wNot t ρ h Q X = t ρ h (fun c h1 => Q (!c) h1) X := rfl
theorem u_if : wIf t a b ρ h Q X = t ρ h (fun c h1 => if c = true then a ρ h1 Q X else b ρ h1 Q X) X := rfl
theorem u_nil {Q : List D → AH → Prop} : wNil ρ h Q X = Q [] h := rfl
theorem u_cons {r : WA} {Q : List D → AH → Prop} : wCons a r ρ h Q X = a ρ h (fun x h1 => r ρ h1 (fun xs h2 => Q (x :: xs) h2) X) X := rfl
theorem u_tup {l : WA} : wTup l ρ h Q X = l ρ h (fun xs h1 => xs.length ≤ sizeLine ∧ Q (.tup xs) h1) X := rfl
theorem u_lst {l : WA} : wLst m l ρ h Q X = l ρ h (fun xs h1 => xs.length ≤ sizeLine ∧ newL m xs h1 Q) X := rfl
theorem u_callP {S : FSpec} {n : Nat} {g : List D → List D → List D} {l : WA} : wCallP S n g l ρ h Q X = l ρ h (fun ds h1 => ds.length = n ∧ S (g ds []) h1 Q X) X := rfl
theorem u_call {S : FSpec} {n k : Nat} {g : List D → List D → List D} {l r : WA} : wCall S n k g l r ρ h Q X = l ρ h (fun ds h1 => r ρ h1 (fun zs h2 => ds.length = n ∧ zs.length = k ∧ S (g ds zs) h2 Q X) X) X := rfl
theorem u_b {r : List D → AH → KD → Prop} {l : WA} : wB r l ρ h Q X = l ρ h (fun xs h1 => r xs h1 Q) X := rfl
theorem u_chain {f g : D → D → AH → KD → Prop} : wChain f g a b c ρ h Q X = a ρ h (fun x h1 => b ρ h1 (fun y h2 => f x y h2 fun z h3 => match z with
  | .bl k => if k = true then c ρ h3 (fun u h4 => g y u h4 Q) X else Q (.bl false) h3
  | _ => False) X) X := rfl
theorem u_andV : wAndV a b ρ h Q X = a ρ h (fun x h1 => match x with
  | .bl k => if k = true then b ρ h1 Q X else Q (.bl false) h1
  | _ => False) X := rfl
theorem u_addI : dAdd m (.int i) (.int j) h Q = Q (.int (i + j)) h := rfl
theorem u_subI : dSub (.int i) (.int j) h Q = Q (.int (i - j)) h := rfl
theorem u_mulI : dMul m (.int i) (.int j) h Q = (MulOk i j ∧ Q (.int (i * j)) h) := rfl
theorem u_divI : dDiv (.int i) (.int j) h Q = (DivOk j ∧ Q (.int (i / j)) h) := rfl
theorem u_modI : dMod (.int i) (.int j) h Q = (0 < j ∧ Q (.int (i % j)) h) := rfl
theorem u_powI : dPow (.int i) (.int j) h Q = (PowOk i j ∧ Q (.int (i ^ j.toNat)) h) := rfl
theorem u_cmpI {f : Int → Int → Bool} : dCmpI f (.int i) (.int j) h Q = Q (.bl (f i j)) h := rfl
theorem u_eqI {f : Bool → Bool} : dEq f (.int i) (.int j) h Q = Q (.bl (f (decide (i = j)))) h := rfl
theorem u_eqS {f : Bool → Bool} {i j : Str} : dEq f (.str i) (.str j) h Q = Q (.bl (f (decide (i = j)))) h := rfl
theorem u_eqB {f : Bool → Bool} {i j : Bool} : dEq f (.bl i) (.bl j) h Q = Q (.bl (f (decide (i = j)))) h := rfl
theorem u_ixL : dIx (.lst xs) (.int i) h Q = ∃ d, atI xs i = some d ∧ Q d h := by simp [dIx, seqOf, lstOf]
theorem u_ixT : dIx (.tup xs) (.int i) h Q = ∃ d, atI xs i = some d ∧ Q d h := by simp [dIx, seqOf]
theorem u_ixR {p : Addr} (e : h p = some (.lst xs)) : dIx (.ref p) (.int i) h Q = ∃ d, atI xs i = some d ∧ Q d h := by simp [dIx, seqOf, lstOf, e]
theorem u_ixLd (e : atI xs i = some d) : dIx (.lst xs) (.int i) h Q = Q d h := by simp [u_ixL, e]
theorem u_ixTd (e : atI xs i = some d) : dIx (.tup xs) (.int i) h Q = Q d h := by simp [u_ixT, e]
theorem u_ixRd {p : Addr} (e : h p = some (.lst xs)) (e2 : atI xs i = some d) : dIx (.ref p) (.int i) h Q = Q d h := by simp [u_ixR e, e2]
theorem at0 : atI (x :: xs) 0 = some x := by simp [atI, ixN]
theorem at1 : atI (x :: y :: xs) 1 = some y := by
  have : (1 : Int) < (xs.length : Int) + 1 + 1 := by omega
  simp [atI, ixN, this]
theorem at2 : atI (x :: y :: z :: xs) 2 = some z := by
  have : (2 : Int) < (xs.length : Int) + 1 + 1 + 1 := by omega
  simp [atI, ixN, this]
theorem u_abs : dAbs [.int i] h Q = Q (.int (if i < 0 then -i else i)) h := rfl
theorem u_intI : dInt [.int i] h Q = Q (.int i) h := rfl
theorem u_intB {k : Bool} : dInt [.bl k] h Q = Q (.int (if k then 1 else 0)) h := rfl
theorem u_lenL : dLen [.lst xs] h Q = Q (.int (xs.length : Nat)) h := by simp [dLen, lenD, cur]
theorem u_lenT : dLen [.tup xs] h Q = Q (.int (xs.length : Nat)) h := by simp [dLen, lenD, cur]
theorem u_lenR {p : Addr} (e : h p = some (.lst xs)) : dLen [.ref p] h Q = Q (.int (xs.length : Nat)) h := by simp [dLen, lenD, cur, e]
theorem u_newT : newL true xs h Q = ∀ p, h p = none → Q (.ref p) (up h p (.lst xs)) := by simp [newL]
theorem u_newF : newL false xs h Q = Q (.lst xs) h := by simp [newL]
theorem u_isN : dIsN (fun b => b) .non .non h Q = Q (.bl true) h := rfl
theorem u_notN : dIsN (fun b => !b) .non .non h Q = Q (.bl false) h := rfl
end
/-! ### == of lists -/
theorem pd_ints (cs : List Int) : pds (cs.map D.int) = cs.map PyData.int := by
  induction cs with
  | nil => rfl
  | cons c cs ih => rw [List.map_cons, pds, ih, pd]; rfl
theorem dats_ints (cs : List Int) : dats (cs.map D.int) = true := by
  induction cs with
  | nil => rfl
  | cons c cs ih => rw [List.map_cons, dats, ih]; rfl
theorem lay_ints (cs : List Int) : PyData.canLayAll0 (cs.map PyData.int) = true := by
  induction cs with
  | nil => rw [List.map_nil, PyData.canLayAll0]
  | cons c cs ih => rw [List.map_cons, PyData.canLayAll0, ih, PyData.canLay0]; rfl
theorem dep_ints (cs : List Int) : PyData.depthAll (cs.map PyData.int) = 0 := by
  induction cs with
  | nil => rw [List.map_nil, PyData.depthAll]
  | cons c cs ih => rw [List.map_cons, PyData.depthAll, ih, PyData.depth]; rfl
theorem sh_lst (cs : List Int) : SeqAt.shaped (pd (.lst (cs.map D.int))) = true := by
  rw [pd, pd_ints]; unfold SeqAt.shaped
  rw [PyData.canLay0, PyData.depth, lay_ints, dep_ints]; rfl
theorem eqv_ints : ∀ cs ds : List Int, PyData.eqvAll (cs.map PyData.int) (ds.map PyData.int) = decide (cs = ds)
  | [], [] => by rw [List.map_nil, PyData.eqvAll]; rfl
  | [], d :: ds => by rw [List.map_nil, List.map_cons, PyData.eqvAll]; rfl
  | c :: cs, [] => by rw [List.map_nil, List.map_cons, PyData.eqvAll]; rfl
  | c :: cs, d :: ds => by
    rw [List.map_cons, List.map_cons, PyData.eqvAll, PyData.eqv, eqv_ints cs ds]
    by_cases e : c = d <;> simp [e]
theorem eq_lst {f : Bool → Bool} {cs ds : List Int} {h : AH} {Q : KD} (q : Q (.bl (f (decide (cs = ds)))) h) : dEq f (.lst (cs.map D.int)) (.lst (ds.map D.int)) h Q := by
  refine ⟨by show dats _ = true; exact dats_ints cs, by show dats _ = true; exact dats_ints ds, sh_lst cs, sh_lst ds, ?_⟩
  show Q (.bl (f (PyData.eqv (pd (.lst (cs.map D.int))) (pd (.lst (ds.map D.int)))))) h
  rw [pd, pd, PyData.eqv, pd_ints, pd_ints, eqv_ints]; exact q
theorem eq_nil {f : Bool → Bool} {cs : List Int} {h : AH} {Q : KD} (q : Q (.bl (f (decide (cs = [])))) h) : dEq f (.lst (cs.map D.int)) (.lst []) h Q := eq_lst (ds := []) q
/-- a statement, then the rest, over what stands between -/
theorem seq_go {s1 s2 : WS} {D0 : EndsD} {ρ : EnvD} {h : AH} (P : EnvD → AH → Prop) (h1 : ∀ K : EnvD → AH → Prop, (∀ ρ h, P ρ h → K ρ h) → s1 { D0 with nx := K } ρ h) (h2 : ∀ ρ h, P ρ h → s2 D0 ρ h) : wSeq s1 s2 D0 ρ h := h1 _ h2
theorem loop_go {st : AH → Prop} {g : WG} {tb : WS} {Z : EndsD} {xs : List D} {ρ : EnvD} {h : AH} (P : Nat → EnvD → AH → Prop) (h0 : P 0 ρ h) (hst : ∀ i ρ h, P i ρ h → st h)
    (hs : ∀ i x ρ h (K : EnvD → AH → Prop), xs[i]? = some x → P i ρ h → (∀ ρ h, P (i + 1) ρ h → K ρ h) → g x ρ h (fun ρ2 h2 => tb { Z with nx := K, ct := K, bk := Z.nx } ρ2 h2) Z.ex) (hd : ∀ ρ h, P xs.length ρ h → Z.nx ρ h) : loopD st g tb Z xs ρ h := by
  suffices H : ∀ (n i : Nat), xs.length - i = n → i ≤ xs.length → ∀ ρ h, P i ρ h → loopD st g tb Z (xs.drop i) ρ h by
    simpa using H xs.length 0 (by simp) (Nat.zero_le _) ρ h h0
  intro n
  induction n with
  | zero =>
    intro i e l ρ h p
    obtain rfl : i = xs.length := by omega
    rw [List.drop_length]
    exact ⟨hst _ _ _ p, hd _ _ p⟩
  | succ n ih =>
    intro i e l ρ h p
    have lt : i < xs.length := by omega
    rw [List.drop_eq_getElem_cons lt]
    exact ⟨hst _ _ _ p, hs i _ ρ h (loopD st g tb Z (xs.drop (i + 1))) (List.getElem?_eq_getElem lt) p fun ρ h q => ih (i + 1) (by omega) lt ρ h q⟩
/-- a comprehension: P by the turn and the heap -/
theorem comp_go {st : AH → Prop} {g : WG} {tt : WT} {te : WE} {vs : List Nat} {ρ : EnvD} {p : Addr} {xs : List D} {h : AH} {Q : AH → Prop} (P : Nat → AH → Prop) (h0 : P 0 h) (hst : ∀ i h, P i h → st h)
    (hs : ∀ i x h (K : AH → Prop), xs[i]? = some x → P i h → (∀ h, P (i + 1) h → K h) → g x (wipeD ρ vs) h (fun ρ2 h2 => tt ρ2 h2 (fun b h3 => if b = true then te ρ2 h3 (fun y h4 => ∃ acc, h4 p = some (.lst acc) ∧ acc.length < sizeLine ∧ K (up h4 p (.lst (acc ++ [y])))) (fun _ _ => False) else K h3) (fun _ _ => False)) (fun _ _ => False))
    (hd : ∀ h, P xs.length h → Q h) : compD st g tt te vs ρ p xs h Q := by
  suffices H : ∀ (n i : Nat), xs.length - i = n → i ≤ xs.length → ∀ h, P i h → compD st g tt te vs ρ p (xs.drop i) h Q by
    simpa using H xs.length 0 (by simp) (Nat.zero_le _) h h0
  intro n
  induction n with
  | zero =>
    intro i e l h p
    obtain rfl : i = xs.length := by omega
    rw [List.drop_length]
    exact ⟨hst _ _ p, hd _ p⟩
  | succ n ih =>
    intro i e l h q
    have lt : i < xs.length := by omega
    rw [List.drop_eq_getElem_cons lt]
    exact ⟨hst _ _ q, hs i _ h (fun h => compD st g tt te vs ρ p (xs.drop (i + 1)) h Q) (List.getElem?_eq_getElem lt) q fun h z => ih (i + 1) (by omega) lt h z⟩
end DL
namespace DL
open PySem PySem.Spec L2 C8
/-! ### the pen: cells, where it stands, what is left of a great cell -/
def PenO (n : Int) (o : AO) : Prop := ∃ (cs : List Int) (at_ gr : Int), o = .lst [.lst (cs.map D.int), .int at_, .int gr] ∧ cs.length ≤ 63 ∧ 0 ≤ at_ ∧ at_ ≤ n ∧ 0 ≤ gr
def PenAt (n : Int) (h : AH) (p : Addr) : Prop := ∃ o, h p = some o ∧ PenO n o
theorem PenO.mono {n m : Int} {o : AO} (h : PenO n o) (l : n ≤ m) : PenO m o := by
  obtain ⟨cs, a, g, rfl, l1, l2, l3, l4⟩ := h
  exact ⟨cs, a, g, rfl, l1, l2, by omega, l4⟩
def S_draw : FSpec := fun ds h Q _ => ∃ (n : Int) (p : Addr) (m : Int), ds = [.ref p, .int m] ∧ PenAt n h p ∧ n < 1000000 ∧ DivOk m ∧ ∀ v o, 0 ≤ v → v < m → PenO (n + 1) o → Q (.int v) (up h p o)
theorem mo_draw : MoF S_draw := fun ds h Q Q' X X' hq _ ⟨n, p, m, e, e1, e2, e3, q⟩ => ⟨n, p, m, e, e1, e2, e3, fun v o h1 h2 h3 => hq _ _ (q v o h1 h2 h3)⟩
theorem len_draw : ∀ ds h Q X, S_draw ds h Q X → ds.length = 2 := fun ds h Q X ⟨n, p, m, e, _⟩ => by rw [e]; rfl
def S_pen : FSpec := fun ds h Q _ => ∃ js : List Int, ds = [.lk (js.map D.int)] ∧ ∀ p o, h p = none → PenO 0 o → Q (.ref p) (up h p o)
theorem mo_pen : MoF S_pen := fun ds h Q Q' X X' hq _ ⟨js, e, q⟩ => ⟨js, e, fun p o h1 h2 => hq _ _ (q p o h1 h2)⟩
theorem len_pen : ∀ ds h Q X, S_pen ds h Q X → ds.length = 1 := fun ds h Q X ⟨js, e, _⟩ => by rw [e]; rfl
def w_pen : WS := (wRet (wLst true (wCons (wB (dListOf false) (wCons (wSl false (wVar 0) woNone (woSome (wC (.int 63)))) wNil)) (wCons (wC (.int 0)) (wCons (wC (.int 0)) wNil)))))
theorem cut_to {α : Type} (xs : List α) (n : Nat) : cutD xs none (some (n : Int)) = xs.take n := by
  unfold cutD
  have e0 : HT.sIx xs.length 0 none = 0 := rfl
  rw [e0, List.drop_zero, Nat.sub_zero]
  rw [HT.sIx_nat]
  exact List.take_eq_take_min.symm
theorem p_pen : ∀ ds h Q X, S_pen ds h Q X → w_pen (endsD Q X) (startD 1 ds) h := by
  rintro ds h Q X ⟨js, rfl, q⟩
  show w_pen (endsD Q X) [some (.lk (js.map D.int))] h
  simp only [w_pen, u_asg, u_gN, u_ret, u_retN, u_skip, u_expr, u_ifs, u_c, u_op, u_neg, u_test, u_and, u_or, u_not, u_if, u_nil, u_cons, u_tup, u_lst, u_callP, u_call, u_b, u_chain, u_andV, u_addI, u_subI, u_mulI, u_divI, u_modI, u_powI, u_cmpI, u_eqI, u_eqS, u_eqB, u_abs, u_intI, u_intB, u_newT, u_newF, u_isN, u_notN, wVar, List.set_cons_zero, List.set_cons_succ, List.getElem?_cons_zero, List.getElem?_cons_succ, List.length_cons, List.length_nil, wSl, woNone, woSome, dSl, dListOf]
  refine ⟨_, _, rfl, rfl, (by decide : 3 ≤ sizeLine), fun p hp => fin_of (q p _ hp ⟨js.take 63, 0, 0, ?_, by simp; omega, by omega, by omega, by omega⟩)⟩
  rw [show (63 : Int) = ((63 : Nat) : Int) by rfl, cut_to, List.map_take]
theorem atI_nat {α : Type} {xs : List α} {j : Nat} (h : j < xs.length) : atI xs (j : Int) = xs[j]? := by
  have h1 : ixN xs.length (j : Int) = some j := by
    unfold ixN
    simp; omega
  unfold atI
  rw [h1]; rfl
theorem mul_l {i j : Int} (h : -(2 ^ 64) < i ∧ i < 2 ^ 64) : MulOk i j := .inl h
end DL
namespace DL
open PySem PySem.Spec L2 C8
section
variable {ρ : EnvD} {h : AH} {Q : KD} {X : KX} {D0 : EndsD} {xs : List D} {p q : Addr} {o u : AO}
theorem endF (hp : h p = none) (k : Q (.lst xs) h) : endL false p Q (up h p (.lst xs)) := ⟨xs, up_same, by rw [rm_up, rm_none hp]; exact k⟩
theorem u_lc {m : Bool} {wi : WI} {g : WG} {tt : WT} {te : WE} {vs : List Nat} : wLc m wi g tt te vs ρ h Q X = wi ρ h (fun xs st h1 => ∀ p, h1 p = none → compD st g tt te vs ρ p xs (up h1 p (.lst [])) (endL m p Q)) X := rfl
theorem u_for {wi : WI} {g : WG} {tb : WS} : wFor wi g tb D0 ρ h = wi ρ h (fun xs st h1 => loopD st g tb D0 xs ρ h1) D0.ex := rfl
theorem u_r1 {l : WA} {R : List D → (AH → Prop) → AH → Prop} : iRng1 l ρ h R X = l ρ h (fun ds h1 => match ds with
  | [.int j] => -(2 ^ 62) ≤ j ∧ j < 2 ^ 62 ∧ R (intsD 0 j.toNat) (fun _ => True) h1
  | _ => False) X := rfl
theorem u_r2 {l : WA} {R : List D → (AH → Prop) → AH → Prop} : iRng2 l ρ h R X = l ρ h (fun ds h1 => match ds with
  | [.int i, .int j] => (-(2 ^ 62) ≤ i ∧ i < 2 ^ 62 ∧ -(2 ^ 62) ≤ j ∧ j < 2 ^ 62) ∧ R (intsD i (j - i).toNat) (fun _ => True) h1
  | _ => False) X := rfl
theorem u_r3 {l : WA} {R : List D → (AH → Prop) → AH → Prop} : iRng3 l ρ h R X = l ρ h (fun ds h1 => match ds with
  | [.int i, .int j, .int c] => ∃ n, RgC i j c n ∧ R (stepD i c n) (fun _ => True) h1
  | _ => False) X := rfl
theorem u_seqi {a : WE} {R : List D → (AH → Prop) → AH → Prop} : iSeq a ρ h R X = a ρ h (fun x h1 => match x with
  | .lst xs => R xs (fun _ => True) h1
  | .ref a => ∃ xs, h1 a = some (.lst xs) ∧ R xs (fun h => h a = some (.lst xs)) h1
  | _ => False) X := rfl
theorem u_tupi {a : WE} {R : List D → (AH → Prop) → AH → Prop} : iTupD a ρ h R X = a ρ h (fun x h1 => match x with
  | .tup xs => R xs (fun _ => True) h1
  | .tpl xs => R xs (fun _ => True) h1
  | _ => False) X := rfl
theorem u_num {l : WA} {R : List D → (AH → Prop) → AH → Prop} : iNum l ρ h R X = l ρ h (fun ds h1 => match ds with
  | [.tup xs] => R (numD xs) (fun _ => True) h1
  | _ => False) X := rfl
theorem u_notV {a : WE} : wNotV a ρ h Q X = a ρ h (fun x h1 => match x with
  | .bl b => Q (.bl (!b)) h1
  | _ => False) X := rfl
theorem u_yes {Q : Bool → AH → Prop} : wYes ρ h Q X = Q true h := rfl
theorem u_w0 : wipeD ρ [] = ρ := rfl
theorem u_w1 {v : Nat} {vs : List Nat} : wipeD ρ (v :: vs) = (wipeD ρ vs).set v none := rfl
end
/-! ### how long a repr is -/
theorem seqi_go {ρ : EnvD} {h : AH} {X : KX} {c : Nat} {x : D} {xs : List D} {R : List D → (AH → Prop) → AH → Prop} (e : ρ[c]? = some (some x)) (hx : lstOf h x = some xs) (k : ∀ st : AH → Prop, (∀ g, Sub h g → st g) → R xs st h) : iSeq (wVar c) ρ h R X := by
  rw [u_seqi, u_var e]
  cases x with
  | lst ys =>
    obtain rfl : ys = xs := Option.some.inj hx
    exact k _ fun _ _ => trivial
  | ref a =>
    dsimp only
    unfold lstOf at hx
    dsimp only at hx
    cases q : h a with
    | none => rw [q] at hx; cases hx
    | some o =>
      rw [q] at hx
      cases o with
      | lst ys =>
        obtain rfl : ys = xs := Option.some.inj hx
        exact ⟨_, rfl, k _ fun g s => s _ _ q⟩
      | _ => cases hx
  | _ => cases hx
theorem len_of {h : AH} {x : D} {xs : List D} {Q : KD} (e : lstOf h x = some xs) (q : Q (.int (xs.length : Nat)) h) : dLen [x] h Q := by
  cases x with
  | lst ys =>
    obtain rfl : ys = xs := Option.some.inj e
    rw [u_lenL]; exact q
  | ref a =>
    unfold lstOf at e
    dsimp only at e
    cases z : h a with
    | none => rw [z] at e; cases e
    | some o =>
      rw [z] at e
      cases o with
      | lst ys =>
        obtain rfl : ys = xs := Option.some.inj e
        rw [u_lenR z]; exact q
      | _ => cases e
  | _ => cases e
end DL
namespace DL
open PySem PySem.Spec L2 C8
/-! ### repr of rows of small things -/
structure Rp (x : D) (k n : Nat) : Prop where
  da : dat x = true
  sh : (pd x).showable = true
  de : (pd x).depth ≤ k
  le : (pd x).shown.length ≤ n
theorem Rp.up {x : D} {k n l m : Nat} (r : Rp x k n) (h1 : k ≤ l) (h2 : n ≤ m) : Rp x l m := ⟨r.da, r.sh, Nat.le_trans r.de h1, Nat.le_trans r.le h2⟩
end DL
namespace DL
open PySem PySem.Spec L2 C8
/-! ### the heap while a pen is drawn from: what stood in h0 stands, the pen apart -/
structure Inv0 (h0 : AH) (p : Addr) (m : Int) (h : AH) : Prop where
  pen : PenAt m h p
  old : ∀ b o, h0 b = some o → b ≠ p → h b = some o
  isp : ∃ o, h0 p = some o
section
variable {h0 h : AH} {p q : Addr} {m n : Int} {o : AO} {Q : KD} {X : KX}
theorem Inv0.start (e : PenAt m h p) : Inv0 h p m h := ⟨e, fun _ _ e _ => e, let ⟨o, e, _⟩ := e; ⟨o, e⟩⟩
theorem Inv0.mono (I : Inv0 h0 p m h) (l : m ≤ n) : Inv0 h0 p n h := ⟨let ⟨o, e, r⟩ := I.pen; ⟨o, e, r.mono l⟩, I.old, I.isp⟩
theorem Inv0.draw (I : Inv0 h0 p m h) (r : PenO n o) : Inv0 h0 p n (up h p o) := ⟨⟨o, up_same, r⟩, fun b u e c => by rw [up_ne c]; exact I.old b u e c, I.isp⟩
theorem Inv0.fresh (I : Inv0 h0 p m h) (e : h q = none) : h0 q = none ∧ q ≠ p := by
  obtain ⟨u, eu, _⟩ := I.pen
  have c : q ≠ p := by rintro rfl; rw [e] at eu; cases eu
  refine ⟨?_, c⟩
  cases z : h0 q with
  | none => rfl
  | some w => rw [I.old _ _ z c] at e; cases e
theorem Inv0.put (I : Inv0 h0 p m h) (e : h0 q = none) : Inv0 h0 p m (up h q o) := by
  have c : q ≠ p := by rintro rfl; obtain ⟨u, z⟩ := I.isp; rw [e] at z; cases z
  obtain ⟨u, eu, r⟩ := I.pen
  exact ⟨⟨u, by rw [up_ne c.symm]; exact eu, r⟩, fun b w z d => by rw [up_ne (by rintro rfl; rw [e] at z; cases z)]; exact I.old b w z d, I.isp⟩
theorem Inv0.new (I : Inv0 h0 p m h) (e : h q = none) : Inv0 h0 p m (up h q o) := I.put (I.fresh e).1
theorem Inv0.sub (I : Inv0 h0 p m h) : ∃ o, PenO m o ∧ Sub (up h0 p o) h := by
  obtain ⟨u, eu, r⟩ := I.pen
  refine ⟨u, r, fun b w z => ?_⟩
  by_cases c : b = p
  · subst c; rw [up_same] at z; cases z; exact eu
  · rw [up_ne c] at z; exact I.old _ _ z c
theorem draw_go {c : Int} (I : Inv0 h0 p m h) (lm : m < 1000000) (dc : DivOk c) (k : ∀ v o, 0 ≤ v → v < c → Inv0 h0 p (m + 1) (up h p o) → (∀ q, q ≠ p → up h p o q = h q) → Q (.int v) (up h p o)) : S_draw [.ref p, .int c] h Q X :=
  ⟨m, p, c, rfl, I.pen, lm, dc, fun v o h1 h2 r => k v o h1 h2 (I.draw r) fun q hq => up_ne hq⟩
end
theorem div_ok {c : Int} (h : 0 < c) (h2 : c < 1073741824) : DivOk c := ⟨h, .inl h2⟩
/-! ### dicts of ints -/
theorem lst_ref {h : AH} {a : Addr} {xs : List D} (e : h a = some (.lst xs)) : lstOf h (.ref a) = some xs := by
  simp [lstOf, e]
theorem seq_ref {h : AH} {a : Addr} {xs : List D} (e : h a = some (.lst xs)) : seqOf h (.ref a) = some xs := by
  simp [seqOf, lstOf, e]
end DL
namespace DL
open PySem PySem.Spec L2 C8
/-! ### defaults of keyword-only parameters -/
end DL
namespace DL
open PySem PySem.Spec L2 C8
/-! ### == of data that hold no text -/
structure Fl (x : D) (k : Nat) : Prop where
  da : dat x = true
  cl : (pd x).canLay0 = true
  de : (pd x).depth ≤ k
theorem fl_bl (b : Bool) : Fl (.bl b) 0 := ⟨rfl, by rw [pd, PyData.canLay0], by rw [pd, PyData.depth]; exact Nat.le_refl _⟩
theorem fl_int (i : Int) : Fl (.int i) 0 := ⟨rfl, by rw [pd, PyData.canLay0], by rw [pd, PyData.depth]; exact Nat.le_refl _⟩
theorem Fl.up {x : D} {k l : Nat} (r : Fl x k) (h : k ≤ l) : Fl x l := ⟨r.da, r.cl, Nat.le_trans r.de h⟩
theorem fls {k : Nat} : ∀ {xs : List D}, (∀ x ∈ xs, Fl x k) → dats xs = true ∧ PyData.canLayAll0 (pds xs) = true ∧ PyData.depthAll (pds xs) ≤ k
  | [], _ => ⟨rfl, by rw [pds, PyData.canLayAll0], by rw [pds, PyData.depthAll]; exact Nat.zero_le _⟩
  | x :: xs, h => by
    obtain ⟨h1, h2, h3⟩ := fls fun y hy => h y (List.mem_cons_of_mem _ hy)
    have r := h x (List.mem_cons_self ..)
    exact ⟨by rw [dats, r.da, h1]; rfl, by rw [pds, PyData.canLayAll0, r.cl, h2]; rfl, by rw [pds, PyData.depthAll]; exact Nat.max_le.mpr ⟨r.de, h3⟩⟩
theorem fl_lst {k : Nat} {xs : List D} (h : ∀ x ∈ xs, Fl x k) : Fl (.lst xs) (k + 1) := by
  obtain ⟨h1, h2, h3⟩ := fls h
  exact ⟨h1, by rw [pd, PyData.canLay0]; exact h2, by rw [pd, PyData.depth]; omega⟩
theorem fl_tup {k : Nat} {xs : List D} (h : ∀ x ∈ xs, Fl x k) : Fl (.tup xs) (k + 1) := by
  obtain ⟨h1, h2, h3⟩ := fls h
  exact ⟨h1, by rw [pd, PyData.canLay0]; exact h2, by rw [pd, PyData.depth]; omega⟩
theorem Fl.sh {x : D} {k : Nat} (r : Fl x k) (hk : k ≤ 64) : SeqAt.shaped (pd x) = true := by
  unfold SeqAt.shaped
  rw [r.cl, decide_eq_true (Nat.le_trans r.de hk)]; rfl
theorem Fl.eqv {x : D} {k : Nat} (r : Fl x k) : PyData.eqv (pd x) (pd x) = true := SeqAt.eqv_refl _ r.cl
section
variable {f : Bool → Bool} {xs ys : List D} {h : AH} {Q : KD} {k l : Nat} {a : Addr}
theorem same_tup (r : Fl (.tup xs) k) (hk : k ≤ 64) (q : Q (.bl (f true)) h) : dEq f (.tup xs) (.tup xs) h Q :=
  ⟨r.da, r.da, r.sh hk, r.sh hk, by show Q (.bl (f (PyData.eqv (pd (.tup xs)) (pd (.tup xs))))) h; rw [r.eqv]; exact q⟩
theorem same_lst (r : Fl (.lst xs) k) (hk : k ≤ 64) (q : Q (.bl (f true)) h) : dEq f (.lst xs) (.lst xs) h Q :=
  ⟨r.da, r.da, r.sh hk, r.sh hk, by show Q (.bl (f (PyData.eqv (pd (.lst xs)) (pd (.lst xs))))) h; rw [r.eqv]; exact q⟩
end
end DL
namespace DL
open PySem PySem.Spec L2 C8
/-! ### attributes -/
def insOf (h : AH) : D → Option (Addr × List (Str × D))
  | .ob C fs => some (C, fs)
  | .ref a => match h a with
    | some (.ins C fs) => some (C, fs)
    | _ => none
  | _ => none
def putFD (f : Str) (d : D) : List (Str × D) → List (Str × D)
  | [] => [(f, d)]
  | (g, x) :: r => if g = f then (g, d) :: r else (g, x) :: putFD f d r
section
variable {K : PySem.W.Frag} {F : Hp} {h : AH} {H : Hp}
theorem RepF.look : ∀ {fs : List (Str × D)} {vs : List (Str × V)} {f : Str} {d : D}, RepF K F fs vs → fs.lookup f = some d → ∃ v, vs.lookup f = some v ∧ Rep K F d v
  | _, _, f, d, .nil, e => by simp at e
  | _, _, f, d, @RepF.cons _ _ k x v xs vs r t, e => by
    cases c : f == k with
    | true =>
      simp only [List.lookup_cons, c] at e ⊢
      cases e
      exact ⟨v, rfl, r⟩
    | false =>
      simp only [List.lookup_cons, c] at e ⊢
      exact RepF.look t e
theorem RepF.put {f : Str} {d : D} {v : V} (r : Rep K F d v) : ∀ {fs : List (Str × D)} {vs : List (Str × V)}, RepF K F fs vs → RepF K F (putFD f d fs) (putF f v vs)
  | _, _, .nil => .cons r .nil
  | _, _, @RepF.cons _ _ k x u xs us q t => by
    show RepF K F (if k = f then (k, d) :: xs else (k, x) :: putFD f d xs) (if k = f then (k, v) :: us else (k, u) :: putF f v us)
    by_cases c : k = f
    · rw [if_pos c, if_pos c]; exact .cons r t
    · rw [if_neg c, if_neg c]; exact .cons q (RepF.put r t)
theorem RepF.length : ∀ {fs : List (Str × D)} {vs : List (Str × V)}, RepF K F fs vs → fs.length = vs.length
  | _, _, .nil => rfl
  | _, _, .cons _ t => by simp [RepF.length t]
theorem Sim.insOf {d : D} {v : V} {C : Addr} {fs : List (Str × D)} (S : Sim K F h H) (r : Rep K F d v) (e : DL.insOf h d = some (C, fs)) : ∃ a dx vs, v = .ref a ∧ H a = some (.ins C dx vs) ∧ RepF K F fs vs := by
  cases r with
  | ref a =>
    cases q : h a with
    | none => simp [DL.insOf, q] at e
    | some o =>
      cases o with
      | ins C' gs =>
        simp only [DL.insOf, q, Option.some.injEq, Prod.mk.injEq] at e
        obtain ⟨rfl, rfl⟩ := e
        obtain ⟨_, u, hu, dx, vs, rfl, rs⟩ := S.ob _ _ q
        exact ⟨a, dx, vs, rfl, hu, rs⟩
      | _ => simp [DL.insOf, q] at e
  | @ob a C' dx xs vs hf rs =>
    simp only [DL.insOf, Option.some.injEq, Prod.mk.injEq] at e
    obtain ⟨rfl, rfl⟩ := e
    exact ⟨a, dx, vs, rfl, S.fz _ _ hf, rs⟩
  | _ => simp [DL.insOf] at e
end
section
variable {X : Cx} {E : XK} {gz : Bool} {k : Nat} {o value e : Expr} {es : List Expr} {wo wv : WE} {wl : WA} {pos pos' p : Pos} {f x : Str} {C : Addr}
/-- e.f of an instance of C -/
def wFld (C : Addr) (f : Str) (wo : WE) : WE := fun ρ h Q X => wo ρ h (fun x h1 => ∃ fs d, insOf h1 x = some (C, fs) ∧ fs.lookup f = some d ∧ Q d h1) X
theorem ae_fld (c : Cls X.K C) (n : NoAttr X.K C f) (ho : AE X E o wo) (hb : attributeBase o f X.env (eval o X.env) = eval o X.env := by rfl) : AE X E (.Attribute o f pos) (wFld C f wo) := by
  refine ⟨PE.imp (pe_fld ho.run hb) fun σ H Q ⟨F, ρ, h, S, R, q⟩ => ?_, fun ρ h Q Q' X X' hq hx q => ho.mo _ _ _ _ _ _ (fun x h1 ⟨fs, d, e1, e2, z⟩ => ⟨fs, d, e1, e2, hq _ _ z⟩) hx q⟩
  refine ⟨F, ρ, h, S, R, ho.mo _ _ _ _ _ _ (fun x h1 z => ?_) (fun _ _ z => z) q⟩
  intro F1 H1 v e1 S1 r
  obtain ⟨fs, d, ei, el, z⟩ := z
  obtain ⟨a, dx, vs, rfl, ha, rs⟩ := S1.insOf r ei
  obtain ⟨w, hw, rw'⟩ := rs.look el
  exact ⟨a, C, dx, vs, w, rfl, ha, c, n, hw, z F1 H1 w e1 S1 rw'⟩
/-- o.f = value -/
def wSetF (C : Addr) (f : Str) (wo wv : WE) : WS := fun D ρ h => wv ρ h (fun z h1 => wo ρ h1 (fun x h2 => ∃ a fs, x = .ref a ∧ h2 a = some (.ins C fs) ∧ fs.length < 1000 ∧ D.nx ρ (up h2 a (.ins C (putFD f z fs)))) D.ex) D.ex
theorem as_fld (c : Cls X.K C) (n : NoAttr X.K C f) (ho : AE X E o wo) (hv : AE X E value wv) (hs : swapsWith value (some (.Attribute o f pos')) pos.line X.env = pure false := by rfl) : AS X E (.Assign [.Attribute o f pos'] value pos) (wSetF C f wo wv) := by
  refine ⟨PS.imp (ps_fld ho.run hv.run hs) fun D σ H ⟨F, ρ, h, S, R, q⟩ => ?_, fun D D' ρ h l q => hv.mo _ _ _ _ _ _ (fun z h1 q => ho.mo _ _ _ _ _ _ (fun x h2 ⟨a, fs, e1, e2, e3, q⟩ => ⟨a, fs, e1, e2, e3, l.nx _ _ q⟩) l.ex q) l.ex q⟩
  refine ⟨F, ρ, h, S, R, hv.mo _ _ _ _ _ _ (fun z h1 q => ?_) (fun _ _ z => z) q⟩
  intro F1 H1 vz e1 S1 rz
  refine ⟨F1, ρ, h1, S1, R.ext e1, ho.mo _ _ _ _ _ _ (fun x h2 q => ?_) (fun _ _ z => LX.ext e1 z) q⟩
  intro F2 H2 vx e2 S2 rx
  obtain ⟨a, fs, rfl, ea, l, q⟩ := q
  cases rx
  obtain ⟨_, u, hu, dx, vs, rfl, rs⟩ := S2.ob _ _ ea
  exact ⟨a, C, dx, vs, rfl, hu, c, n, by rw [← rs.length]; exact l, q F2 _ σ (e1.trans e2) (S2.put ea (o := .ins C (putFD f z fs)) ⟨dx, _, rfl, rs.put (rz.ext e2)⟩) (R.ext (e1.trans e2))⟩
/-- C(e, ..): made, then taken as what does not change -/
def wMake (C : Addr) (S : FSpec) (wl : WA) : WE := fun ρ h Q X => wl ρ h (fun ds h1 => ∀ a, h1 a = none → S (.ref a :: ds) (up h1 a (.ins C [])) (fun v h2 => v = .non ∧ ∃ fs, h2 a = some (.ins C fs) ∧ Q (.ob C fs) (rm h2 a)) X) X
theorem make_to {K : PySem.W.Frag} {S : FSpec} (mo : MoF S) {F : Hp} {h : AH} {H : Hp} {ds : List D} {vs : List V} {Q : VK} {E : XK} (S0 : Sim K F h H) (r : Reps K F ds vs)
    (q : ∀ a, h a = none → S (.ref a :: ds) (up h a (.ins C [])) (fun v h2 => v = .non ∧ ∃ fs, h2 a = some (.ins C fs) ∧ LQ K F Q (.ob C fs) (rm h2 a)) (LX K F E)) :
    ∀ x dx, H x = none → H dx = none → dx ≠ x → spD K S (V.ref x :: vs) (upd (upd H dx (.own x)) x (.ins C dx [])) (fun v H2 => v = .non ∧ Q (.ref x) H2) E := by
  intro x dx hx hd ne
  have S1 := S0.newF hd (.own x)
  have e1 := ext_upd (o := HO.own x) (S0.free hd).1
  have hx1 : (upd H dx (.own x)) x = none := by rw [upd_ne ne.symm]; exact hx
  have S2 := S1.newM hx1 (o := .ins C []) (u := .ins C dx []) ⟨dx, [], rfl, .nil⟩
  refine ⟨_, .ref x :: ds, _, S2, .cons (.ref x) (r.ext e1), mo _ _ _ _ _ _ (fun v h2 z => ?_) (fun _ _ z => LX.ext e1 z) (q x (S0.free hx).2)⟩
  obtain ⟨rfl, fs, ef, z⟩ := z
  intro F3 H3 w e3 S3 rw'
  cases rw'
  refine ⟨rfl, ?_⟩
  obtain ⟨_, u, hu, dy, us, rfl, rs⟩ := S3.ob _ _ ef
  obtain ⟨e4, S4⟩ := S3.frz ef hu rm_same rm_sub
  exact z _ _ _ (e1.trans (e3.trans e4)) S4 (.ob upd_same (rs.ext e4))
/-- what a positional call of a def promises -/
abbrev FnRD (P : Program) (w : World) (K : PySem.W.Frag) (mg : Str → Option Value) (base : Heap) (k : Nat) (f : Addr) (S : FSpec) : Prop := FnR P w K mg base (L2.CX P w) k f fun vs H Q E => spD K S vs H Q E
end
end DL
namespace DL
open PySem PySem.Spec L2 C8
section
variable {P : Program} {w : World} {K : PySem.W.Frag} {mg : Str → Option Value} {base : Heap} {k : Nat} {f : Addr} {fd : FuncData} {ps : List Str} {S : FSpec}
/-- a def called with all its parameters by place -/
theorem frd_plain (G : FnG false P w K mg base k f fd ps S) (B : Bnd K fd ps ps.length [] (fun ds _ => ds)) : FnRD P w K mg base k f S := by
  intro A outer s H us vs Q E hr e0 r hs
  obtain ⟨F, ds, g, S0, r0, q⟩ := hs
  have X : K.In s.heap := e0.mod.kin.keeps fun b o e => (e0.bs b o e).1
  obtain ⟨xs, ts, rx, rt, bt⟩ := B.to s F ds [] vs [] us [] X (G.len _ _ _ _ q) rfl r0 r .nil .nil
  exact G.run hr (fun z => Bool.noConfusion z) e0 bt rt ⟨F, ds, g, S0, rx, q⟩
theorem FnRD.mono {j : Nat} (G : FnRD P w K mg base j f S) (h : j ≤ k) : FnRD P w K mg base k f S := fun A outer s H us vs Q E hr => G A outer s H us vs Q E (hr.mono h)
/-- what a def with n parameters and a starred one promises by place -/
def starS (n : Nat) (S : FSpec) : FSpec := fun ds h Q X => n ≤ ds.length ∧ (ds.drop n).length ≤ sizeLine ∧ S (ds.take n ++ [.tup (ds.drop n)]) h Q X
theorem starS_mo {n : Nat} (mo : MoF S) : MoF (starS n S) := fun _ _ _ _ _ _ hq hx ⟨a, b, q⟩ => ⟨a, b, mo _ _ _ _ _ _ hq hx q⟩
theorem frd_star {x qual : Str} {st : Stmt} {N : List Str} {pv : Str} {W : WS} (Fn : L2.Fun K x qual st f fd) (sc : FnScope N (ps ++ [pv]) (defScope st)) (len : ∀ ds h Q X, S ds h Q X → ds.length = (ps ++ [pv]).length) (mo : MoF S)
    (hb : ∀ (kV doc pm : Value) (an : Option Addr) (cdv ct : Value) (us rest : List Value), us.length = ps.length → bindArgs (PySem.W.fnOf x qual (defArgs st) (defBody st) (defScope st) .none kV doc pm an cdv ct) ⟨us ++ rest, []⟩ = (newTuple rest >>= fun t => pure (ps.zip us ++ [(pv, t)])))
    (body : ∀ (cdv : Value) (A : Around) (outer : List PySem.Env) (s : Shared) (H : Hp) (E : XK), Cg false (cxOf (L2.CX P w) P w K mg base N qual (defScope st) f cdv A outer s H E) E k →
      ASs (cxOf (L2.CX P w) P w K mg base N qual (defScope st) f cdv A outer s H E) E (defBody st) W)
    (pure : ∀ ds h Q X, S ds h Q X → W (endsD Q X) (startD N.length ds) h) : FnRD P w K mg base (k + 1) f (starS ps.length S) := by
  obtain ⟨oc, od, kV, doc, pm, an, cdv, ct, osl, rfl, lk, hcd⟩ := Fn.ex
  have R := StX.fn_star (P := P) (w := w) (mg := mg) (base := base) (k := k) (sp := fun vs H Q E => spD K S vs H Q E) lk hcd sc StX.cxUp (hb kV doc pm an cdv ct) (fun A outer s H vs Q E hr hs => by
    have c : Cg false (cxOf (L2.CX P w) P w K mg base N qual (defScope st) f cdv A outer s H E) E k :=
      ⟨hr, fun z => Bool.noConfusion z, rfl, sc.nd, passes_call (takes_of rfl rfl rfl rfl) fun _ _ _ _ z => z, passes_of rfl⟩
    obtain ⟨F0, ds, g, S0, r0, q0⟩ := hs
    have B := body cdv A outer s H E c
    refine ⟨_, B.run, F0, _, g, S0, start_env r0, B.mo (endsD (LQ K F0 Q) (LX K F0 E)) _ _ _ ⟨fun ρ h z => ?_, fun d h z => LQ.fin z, fun _ _ z => False.elim z, fun _ _ z => False.elim z, fun _ _ z => z⟩ (pure ds g _ _ q0)⟩
    exact fun F' H' σ' e S' _ => LQ.fin z F' H' .non e S' .non)
  refine R.imp fun vs H Q E hs => ?_
  obtain ⟨F, ds, g, S0, r0, l1, l2, q⟩ := hs
  refine ⟨vs.take ps.length, vs.drop ps.length, (List.take_append_drop _ _).symm, by rw [List.length_take, ← r0.length]; omega, by rw [← (r0.drop ps.length).length]; exact l2, fun p hp => ?_⟩
  have x1 := ext_upd (o := HO.tup (vs.drop ps.length)) (S0.free hp).1
  exact ⟨_, _, g, S0.newF hp _, ((r0.take ps.length).ext x1).append (.cons (.tup (.of upd_same) ((r0.drop ps.length).ext x1)) .nil), mo _ _ _ _ _ _ (fun _ _ z => LQ.ext x1 z) (fun _ _ z => LX.ext x1 z) q⟩
end
section
variable {X : Cx} {E : XK} {gz : Bool} {k j : Nat} {o value e fe : Expr} {es : List Expr} {wo wv we : WE} {wl : WA} {pos pos' p sp_ : Pos} {f x m : Str} {C fI g : Addr} {S : FSpec}
/-- C(*e) -/
def wMakeS (C : Addr) (S : FSpec) (we : WE) : WE := fun ρ h Q X => we ρ h (fun y h1 => ∃ ds, seqOf h1 y = some ds ∧ ∀ a, h1 a = none → S (.ref a :: ds) (up h1 a (.ins C [])) (fun v h2 => v = .non ∧ ∃ fs, h2 a = some (.ins C fs) ∧ Q (.ob C fs) (rm h2 a)) X) X
/-- f(e, ..), f an instance of C -/
def wCallO (C : Addr) (S : FSpec) (wo : WE) (wl : WA) : WE := fun ρ h Q X => wo ρ h (fun y h1 => wl ρ h1 (fun ds h2 => (∃ fs, insOf h2 y = some (C, fs)) ∧ S (y :: ds) h2 Q X) X) X
end
end DL
namespace DL
open PySem PySem.Spec L2 C8
section
variable {P : Program} {w : World} {K : PySem.W.Frag} {mg : Str → Option Value} {base : Heap} {k : Nat} {f : Addr} {fd : FuncData} {ps : List Str} {S : FSpec}
theorem FnG.ok (G : FnG false P w K mg base k f fd ps S) : FnOk P w K mg base (L2.CX P w) k f fd ps (fun vs H Q E => spD K S vs H Q E) :=
  ⟨fun vs H Q E h => spD_len G.len h, fun A outer s H args us vs Q E hr e0 hb hv hs => G.run hr (fun z => Bool.noConfusion z) e0 hb hv hs⟩
end
section
variable {X : Cx} {E : XK} {gz : Bool} {k j : Nat} {o value e fe : Expr} {es : List Expr} {wo wv we : WE} {wl : WA} {pos pos' apos p sp_ : Pos} {f x m : Str} {C fI g pa : Addr} {S : FSpec} {fd : FuncData} {ps : List Str}
def isI (C : Addr) (x : D) (h : AH) : Prop := ∃ fs, insOf h x = some (C, fs)
/-- e.f, a property of C -/
def wProp (C : Addr) (S : FSpec) (wo : WE) : WE := fun ρ h Q X => wo ρ h (fun x h1 => isI C x h1 ∧ S [x] h1 Q (fun _ _ => False)) X
theorem ae_prop (c : Cg gz X E k) (cc : Cls X.K C) (hp : PropOf X.K C f pa g) (G : FnG false X.prog X.w X.K X.mg X.base j g fd ps S) (hb : Binds X.K fd ps []) (hj : j + 1 ≤ k) (ho : AE X E o wo)
    (hab : attributeBase o f X.env (eval o X.env) = eval o X.env := by rfl) : AE X E (.Attribute o f pos) (wProp C S wo) := by
  have hx : Passes (L2.CX X.prog X.w) X.nox L2.E0 := passL
  refine ⟨PE.imp (pe_prop ho.run cc hp G.ok (c.room.mono hj) hb .nil hx hab) fun σ H Q ⟨F, ρ, h, S0, R, q⟩ => ?_, fun ρ h Q Q' X X' hq hx q => ho.mo _ _ _ _ _ _ (fun x h1 z => ⟨z.1, G.mo _ _ _ _ _ _ hq (fun _ _ z => z) z.2⟩) hx q⟩
  refine ⟨F, ρ, h, S0, R, ho.mo _ _ _ _ _ _ (fun x h1 z => ?_) (fun _ _ z => z) q⟩
  intro F1 H1 v e1 S1 r
  obtain ⟨⟨fs, ei⟩, z⟩ := z
  obtain ⟨a, dx, vs, rfl, ha, _⟩ := S1.insOf r ei
  exact ⟨a, dx, vs, rfl, ha, F1, _, h1, S1, .cons r .nil, G.mo _ _ _ _ _ _ (fun _ _ z => LQ.ext e1 z) (fun _ _ z => z.elim) z⟩
/-- o.m(e, ..) -/
def wMet (C : Addr) (m : Str) (S : FSpec) (wo : WE) (wl : WA) : WE := fun ρ h Q X => wo ρ h (fun x h1 => ∃ fs, insOf h1 x = some (C, fs) ∧ fs.lookup m = none ∧ wl ρ h1 (fun ds h2 => S (x :: ds) h2 Q X) X) X
theorem RepF.no {K : PySem.W.Frag} {F : Hp} {f : Str} : ∀ {fs : List (Str × D)} {vs : List (Str × V)}, RepF K F fs vs → fs.lookup f = none → vs.lookup f = none
  | _, _, .nil, _ => rfl
  | _, _, @RepF.cons _ _ k x v xs vs r t, e => by
    cases c : f == k with
    | true => simp only [List.lookup_cons, c] at e; cases e
    | false =>
      simp only [List.lookup_cons, c] at e ⊢
      exact RepF.no t e
end
end DL
namespace DL
open PySem PySem.Spec L2 C8
end DL
namespace DL
open PySem PySem.Spec L2 C8
section
variable {X : Cx} {E : XK} {gz : Bool} {k : Nat} {a b e o : Expr} {rest : List Expr} {wa wb wo : WE} {pos apos cpos p : Pos} {m : Str} {C g : Addr} {S : FSpec} {j : Nat}
/-- a or b, a of any truth -/
def wOrT (wa wb : WE) : WE := fun ρ h Q X => wa ρ h (fun x h1 => ∃ k, truD h1 x = some k ∧ if k = true then Q x h1 else wb ρ h1 Q X) X
end
end DL
namespace DL
open PySem PySem.Spec L2 C8
/-! ### dict comprehensions -/
def dcD (st : AH → Prop) (g : WG) (tt : WT) (tk tv : WE) (vs : List Nat) (ρ : EnvD) (p : Addr) : List D → AH → (AH → Prop) → Prop
  | [], h, Q => st h ∧ Q h
  | x :: r, h, Q => st h ∧ g x (wipeD ρ vs) h (fun ρ2 h2 => tt ρ2 h2 (fun b h3 => if b = true then tk ρ2 h3 (fun y h4 => tv ρ2 h4 (fun z h5 => ∃ kvs k, keyD y = some k ∧ h5 p = some (.dK kvs) ∧ kvs.length < sizeLine ∧ dcD st g tt tk tv vs ρ p r (up h5 p (.dK (putD kvs k z))) Q) (fun _ _ => False)) (fun _ _ => False)
      else dcD st g tt tk tv vs ρ p r h3 Q) (fun _ _ => False)) (fun _ _ => False)
def endK (m : Bool) (p : Addr) (Q : KD) : AH → Prop := fun h => ∃ kvs, h p = some (.dK kvs) ∧ if m = true then Q (.ref p) h else Q (.dK kvs) (rm h p)
def wDc (m : Bool) (wi : WI) (g : WG) (tt : WT) (tk tv : WE) (vs : List Nat) : WE := fun ρ h Q X => wi ρ h (fun xs st h1 => ∀ p, h1 p = none → dcD st g tt tk tv vs ρ p xs (up h1 p (.dK [])) (endK m p Q)) X
/-! ### x[::-1] of a list -/
theorem Reps.rev {K : PySem.W.Frag} {F : Hp} : ∀ {xs : List D} {vs : List V}, Reps K F xs vs → Reps K F xs.reverse vs.reverse
  | _, _, .nil => .nil
  | _, _, .cons r t => by rw [List.reverse_cons, List.reverse_cons]; exact (Reps.rev t).append (.cons r .nil)
def wRev (m : Bool) (wo : WE) : WE := fun ρ h Q X => wo ρ h (fun x h1 => ∃ xs, lstOf h1 x = some xs ∧ newL m xs.reverse h1 Q) X
theorem ae_rev (m : Bool) {X : Cx} {E : XK} {o : Expr} {wo : WE} {k : Nat} {p1 p2 p3 pos : Pos} (ho : AE X E o wo) : AE X E (.Subscript o (.Slice none none (some (.UnaryOp .USub (.Constant (.int 1) k p1) p2)) p3) pos) (wRev m wo) := by
  refine ⟨PE.imp (pe_revL ho.run) fun σ H Q ⟨F, ρ, h, S0, R, q⟩ => ?_, fun ρ h Q Q' X X' hq hx q => ho.mo _ _ _ _ _ _ (fun x h1 ⟨xs, e1, z⟩ => ⟨xs, e1, newL_mo hq z⟩) hx q⟩
  refine ⟨F, ρ, h, S0, R, ho.mo _ _ _ _ _ _ (fun x h1 z => ?_) (fun _ _ z => z) q⟩
  intro F1 H1 v e1 S1 r
  obtain ⟨xs, ex, z⟩ := z
  obtain ⟨a, vs, rfl, ha, rs⟩ := S1.lstOf r ex
  exact ⟨a, vs, rfl, .of ha, S1.newL rs.rev (newL_mo (fun _ _ z => LQ.ext e1 z) z)⟩
end DL
namespace DL
open PySem PySem.Spec L2 C8 PyProof.Rows
end DL
namespace DL
open PySem PySem.Spec L2 C8 PyProof.Rows
/-- a key as data -/
def kD : Key → D
  | .inl i => .int i
  | .inr s => .str s
end DL
namespace DL
open PySem PySem.Spec L2 C8 PyProof.Rows
/-! ### dict(t), t a tuple of pairs -/
end DL
namespace DL
open PySem PySem.Spec L2 C8 PyProof.Rows
section
variable {X : Cx}
theorem Paired.imp {α β : Type} {F G : α → β → Prop} (h : ∀ a b, F a b → G a b) : ∀ {xs : List α} {ys : List β}, Paired F xs ys → Paired G xs ys
  | _, _, .nil => .nil
  | _, _, .cons p t => .cons (h _ _ p) (Paired.imp h t)
end
end DL
namespace DL
open PySem PySem.Spec L2 C8
/-! ### a dict written out; an empty one that does not change -/
section
variable {X : Cx} {E : XK} {pos : Pos}
theorem RepK.len {K : PySem.W.Frag} {F : Hp} {kvs : List (Key × D)} {vs : List (Key × V)} (r : RepK K F kvs vs) : kvs.length = vs.length := by
  induction kvs generalizing vs with
  | nil => cases r; rfl
  | cons x xs ih => cases r with | cons h t => rw [List.length_cons, List.length_cons, ih t]
end
end DL
namespace DL
open PySem PySem.Spec L2 C8
/-! ### repr of data within which empty dicts may stand -/
mutual
def pq : D → PyData
  | .non => .none
  | .bl b => .bool b
  | .int i => .int i
  | .str s => .str s
  | .tup xs => .tuple (pqs xs)
  | .tpl xs => .tuple (pqs xs)
  | .lst xs => .list (pqs xs)
  | .ref _ => .none
  | .ty _ => .none
  | .lk _ => .none
  | .ob _ _ => .none
  | .xob _ _ => .none
  | .lam _ _ _ _ _ => .none
  | .dK _ => .dict []
  | .dT _ => .none
def pqs : List D → List PyData
  | [] => []
  | x :: xs => pq x :: pqs xs
end
mutual
def dq : D → Bool
  | .non => true
  | .bl _ => true
  | .int _ => true
  | .str _ => true
  | .tup xs => dqs xs
  | .tpl xs => dqs xs
  | .lst xs => dqs xs
  | .ref _ => false
  | .ty _ => false
  | .lk _ => false
  | .ob _ _ => false
  | .xob _ _ => false
  | .lam _ _ _ _ _ => false
  | .dK kvs => kvs.isEmpty
  | .dT _ => false
def dqs : List D → Bool
  | [] => true
  | x :: xs => dq x && dqs xs
end
end DL
namespace PySem.W
open PySem PySem.Spec PySem.Calls PyProof.Rows
end PySem.W
namespace DL
open PySem PySem.Spec L2 C8
end DL
namespace DL
open PySem PySem.Spec L2 C8
/-! ### the draw of the laws k01-k11, k47-k57, k96-k99 -/
def w_draw2 : WS := (wSeq (wIfS (wTest (wOp (dCmpI fun i j => decide (j < i)) (wOp dIx (wVar 0) (wC (.int 2))) (wC (.int 0)))) (wSeq (wAsg (wOp dMod (wOp dIx (wVar 0) (wC (.int 2))) (wVar 1)) (gN 2))
  (wSeq (wAsg (wOp dDiv (wOp dIx (wVar 0) (wC (.int 2))) (wVar 1)) (gSubL (wVar 0) (wC (.int 2))))
  (wRet (wVar 2)))) wSkip)
  (wSeq (wAsg (wOp dIx (wVar 0) (wC (.int 1))) (gN 3))
  (wSeq (wAsg (wOp (dAdd false) (wVar 3) (wC (.int 1))) (gSubL (wVar 0) (wC (.int 1))))
  (wSeq (wAsg (wOp (dAdd false) (wOp (dMul false) (wC (.int 80239)) (wVar 3)) (wC (.int 71))) (gN 4))
  (wSeq (wIfS (wTest (wOp (dEq fun b => !b) (wOp dIx (wVar 0) (wC (.int 0))) (wLst false wNil))) (wAsg (wOp dIx (wOp dIx (wVar 0) (wC (.int 0))) (wOp dMod (wVar 3) (wB dLen (wCons (wOp dIx (wVar 0) (wC (.int 0))) wNil)))) (gN 4)) wSkip)
  (wSeq (wIfS (wAnd (wTest (wOp (dCmpI fun i j => decide (i < j)) (wVar 3) (wB dLen (wCons (wOp dIx (wVar 0) (wC (.int 0))) wNil)))) (wTest (wOp (dCmpI fun i j => decide (j ≤ i)) (wB dAbs (wCons (wVar 4) wNil)) (wOp dPow (wC (.int 10)) (wC (.int 18)))))) (wSeq (wAsg (wOp (dAdd false) (wOp (dMul false) (wC (.int 2)) (wB dAbs (wCons (wVar 4) wNil))) (wB dInt (wCons (wOp (dCmpI fun i j => decide (i < j)) (wVar 4) (wC (.int 0))) wNil))) (gN 5))
  (wSeq (wAsg (wOp dDiv (wVar 5) (wVar 1)) (gSubL (wVar 0) (wC (.int 2))))
  (wRet (wOp dMod (wVar 5) (wVar 1))))) wSkip)
  (wSeq (wAsg (wOp dMod (wOp dPow (wOp (dAdd false) (wOp (dAdd false) (wOp dMod (wVar 4) (wC (.int 2147483587))) (wOp (dMul false) (wC (.int 61027)) (wVar 3))) (wC (.int 29))) (wC (.int 3))) (wC (.int 2147483629))) (gN 6))
  (wSeq (wAsg (wOp dMod (wOp dPow (wOp (dAdd false) (wOp (dMul false) (wVar 6) (wOp (dAdd false) (wOp (dMul false) (wC (.int 2)) (wVar 3)) (wC (.int 9)))) (wC (.int 93239))) (wC (.int 3))) (wC (.int 2147483543))) (gN 6))
  (wRet (wOp dMod (wOp dDiv (wVar 6) (wC (.int 16))) (wVar 1)))))))))))
theorem p_draw2 : ∀ ds h Q X, S_draw ds h Q X → w_draw2 (endsD Q X) (startD 7 ds) h := by
  rintro ds h Q X ⟨n, p, m, rfl, ⟨_, hp, cs, at_, gr, rfl, l1, l2, l3, l4⟩, hn, dm, q⟩
  show w_draw2 (endsD Q X) [some (.ref p), some (.int m), none, none, none, none, none] h
  have hm : 0 < m := dm.1
  unfold w_draw2
  rw [u_seq]
  simp only [u_asg, u_gN, u_ret, u_retN, u_skip, u_expr, u_ifs, u_c, u_op, u_neg, u_test, u_and, u_or, u_not, u_if, u_nil, u_cons, u_tup, u_lst, u_callP, u_call, u_b, u_chain, u_andV, u_addI, u_subI, u_mulI, u_divI, u_modI, u_powI, u_cmpI, u_eqI, u_eqS, u_eqB, u_abs, u_intI, u_intB, u_newT, u_newF, u_isN, u_notN, wVar, List.set_cons_zero, List.set_cons_succ, List.getElem?_cons_zero, List.getElem?_cons_succ, List.length_cons, List.length_nil, u_ixRd hp at2]
  by_cases c : 0 < gr
  · simp only [decide_eq_true c, if_true, u_seq, u_asg, u_gN, u_ret, u_retN, u_skip, u_expr, u_ifs, u_c, u_op, u_neg, u_test, u_and, u_or, u_not, u_if, u_nil, u_cons, u_tup, u_lst, u_callP, u_call, u_b, u_chain, u_andV, u_addI, u_subI, u_mulI, u_divI, u_modI, u_powI, u_cmpI, u_eqI, u_eqS, u_eqB, u_abs, u_intI, u_intB, u_newT, u_newF, u_isN, u_notN, wVar, List.set_cons_zero, List.set_cons_succ, List.getElem?_cons_zero, List.getElem?_cons_succ, List.length_cons, List.length_nil, u_ixRd hp at2, gSubL]
    refine ⟨hm, dm, p, _, 2, 2, rfl, rfl, hp, rfl, fin_of (q _ _ (Int.emod_nonneg _ (by omega)) (Int.emod_lt_of_pos _ hm) ⟨cs, at_, gr / m, rfl, l1, l2, by omega, Int.ediv_nonneg l4 (by omega)⟩)⟩
  simp only [decide_eq_false c, Bool.false_eq_true, if_false]
  rw [u_seq]
  simp only [u_asg, u_gN, u_ret, u_retN, u_skip, u_expr, u_ifs, u_c, u_op, u_neg, u_test, u_and, u_or, u_not, u_if, u_nil, u_cons, u_tup, u_lst, u_callP, u_call, u_b, u_chain, u_andV, u_addI, u_subI, u_mulI, u_divI, u_modI, u_powI, u_cmpI, u_eqI, u_eqS, u_eqB, u_abs, u_intI, u_intB, u_newT, u_newF, u_isN, u_notN, wVar, List.set_cons_zero, List.set_cons_succ, List.getElem?_cons_zero, List.getElem?_cons_succ, List.length_cons, List.length_nil, u_ixRd hp at1]
  rw [u_seq]
  simp only [u_asg, u_gN, u_ret, u_retN, u_skip, u_expr, u_ifs, u_c, u_op, u_neg, u_test, u_and, u_or, u_not, u_if, u_nil, u_cons, u_tup, u_lst, u_callP, u_call, u_b, u_chain, u_andV, u_addI, u_subI, u_mulI, u_divI, u_modI, u_powI, u_cmpI, u_eqI, u_eqS, u_eqB, u_abs, u_intI, u_intB, u_newT, u_newF, u_isN, u_notN, wVar, List.set_cons_zero, List.set_cons_succ, List.getElem?_cons_zero, List.getElem?_cons_succ, List.length_cons, List.length_nil, gSubL]
  refine ⟨p, _, 1, 1, rfl, rfl, hp, rfl, ?_⟩
  have e1 : ([D.lst (cs.map D.int), D.int at_, D.int gr].set 1 (D.int (at_ + 1))) = [D.lst (cs.map D.int), D.int (at_ + 1), D.int gr] := rfl
  rw [e1]
  have ug : ∀ o, up (up h p (.lst [D.lst (cs.map D.int), D.int (at_ + 1), D.int gr])) p o = up h p o := fun o => up_up
  have gp : (up h p (.lst [D.lst (cs.map D.int), D.int (at_ + 1), D.int gr])) p = some (.lst [D.lst (cs.map D.int), D.int (at_ + 1), D.int gr]) := up_same
  have fin0 : ∀ v, 0 ≤ v → v < m → Q (.int v) (up h p (.lst [D.lst (cs.map D.int), D.int (at_ + 1), D.int gr])) := fun v h1 h2 => q v _ h1 h2 ⟨cs, at_ + 1, gr, rfl, l1, by omega, by omega, l4⟩
  have fin1 : ∀ v g, 0 ≤ v → v < m → 0 ≤ g → Q (.int v) (up h p (.lst [D.lst (cs.map D.int), D.int (at_ + 1), D.int g])) := fun v g h1 h2 h3 => q v _ h1 h2 ⟨cs, at_ + 1, g, rfl, l1, by omega, by omega, h3⟩
  generalize hg : up h p (.lst [D.lst (cs.map D.int), D.int (at_ + 1), D.int gr]) = g at gp ug fin0 ⊢
  rw [u_seq]
  simp only [u_asg, u_gN, u_ret, u_retN, u_skip, u_expr, u_ifs, u_c, u_op, u_neg, u_test, u_and, u_or, u_not, u_if, u_nil, u_cons, u_tup, u_lst, u_callP, u_call, u_b, u_chain, u_andV, u_addI, u_subI, u_mulI, u_divI, u_modI, u_powI, u_cmpI, u_eqI, u_eqS, u_eqB, u_abs, u_intI, u_intB, u_newT, u_newF, u_isN, u_notN, wVar, List.set_cons_zero, List.set_cons_succ, List.getElem?_cons_zero, List.getElem?_cons_succ, List.length_cons, List.length_nil]
  refine ⟨mul_l (by decide), ?_⟩
  -- the cell
  refine seq_go (fun ρ h => g = h ∧ ∃ c : Int, ρ = [some (.ref p), some (.int m), none, some (.int at_), some (.int c), none, none]) (fun K k => ?_) ?_
  · simp only [u_asg, u_gN, u_ret, u_retN, u_skip, u_expr, u_ifs, u_c, u_op, u_neg, u_test, u_and, u_or, u_not, u_if, u_nil, u_cons, u_tup, u_lst, u_callP, u_call, u_b, u_chain, u_andV, u_addI, u_subI, u_mulI, u_divI, u_modI, u_powI, u_cmpI, u_eqI, u_eqS, u_eqB, u_abs, u_intI, u_intB, u_newT, u_newF, u_isN, u_notN, wVar, List.set_cons_zero, List.set_cons_succ, List.getElem?_cons_zero, List.getElem?_cons_succ, List.length_cons, List.length_nil, u_ixRd gp at0]
    refine ⟨Nat.zero_le _, eq_nil ?_⟩
    by_cases z : cs = []
    · rw [decide_eq_true z]
      exact k _ _ ⟨rfl, _, rfl⟩
    rw [decide_eq_false z]
    simp only [Bool.not_false, if_true, u_ixRd gp at0, u_lenL, u_modI, u_ixL]
    have lc : 0 < cs.length := List.length_pos_iff.mpr z
    have lp : (0 : Int) < ((cs.map D.int).length : Nat) := by rw [List.length_map]; omega
    refine ⟨lp, ?_⟩
    have a0 := Int.emod_nonneg at_ (show (((cs.map D.int).length : Nat) : Int) ≠ 0 by omega)
    have a1 := Int.emod_lt_of_pos at_ lp
    obtain ⟨j, ej⟩ := Int.eq_ofNat_of_zero_le a0
    rw [ej] at a1 ⊢
    rw [List.length_map] at a1
    have lj : j < cs.length := by omega
    refine ⟨.int cs[j], ?_, k _ _ ⟨rfl, _, rfl⟩⟩
    rw [atI_nat (by rw [List.length_map]; exact lj), List.getElem?_map, List.getElem?_eq_getElem lj]
    rfl
  rintro _ _ ⟨rfl, c, rfl⟩
  refine seq_go (fun ρ h => g = h ∧ ρ = [some (.ref p), some (.int m), none, some (.int at_), some (.int c), none, none]) (fun K k => ?_) ?_
  · simp only [u_asg, u_gN, u_ret, u_retN, u_skip, u_expr, u_ifs, u_c, u_op, u_neg, u_test, u_and, u_or, u_not, u_if, u_nil, u_cons, u_tup, u_lst, u_callP, u_call, u_b, u_chain, u_andV, u_addI, u_subI, u_mulI, u_divI, u_modI, u_powI, u_cmpI, u_eqI, u_eqS, u_eqB, u_abs, u_intI, u_intB, u_newT, u_newF, u_isN, u_notN, wVar, List.set_cons_zero, List.set_cons_succ, List.getElem?_cons_zero, List.getElem?_cons_succ, List.length_cons, List.length_nil, u_ixRd gp at0, u_lenL]
    have k := k _ _ ⟨rfl, rfl⟩
    by_cases z : at_ < ((cs.map D.int).length : Nat)
    · rw [decide_eq_true z]
      simp only [if_true]
      refine ⟨by refine ⟨by decide, by decide, by decide⟩, ?_⟩
      by_cases y : (10 ^ Int.toNat 18 : Int) ≤ if c < 0 then -c else c
      · rw [if_pos (decide_eq_true y)]
        simp only [u_seq, u_asg, u_gN, u_ret, u_retN, u_skip, u_expr, u_ifs, u_c, u_op, u_neg, u_test, u_and, u_or, u_not, u_if, u_nil, u_cons, u_tup, u_lst, u_callP, u_call, u_b, u_chain, u_andV, u_addI, u_subI, u_mulI, u_divI, u_modI, u_powI, u_cmpI, u_eqI, u_eqS, u_eqB, u_abs, u_intI, u_intB, u_newT, u_newF, u_isN, u_notN, wVar, List.set_cons_zero, List.set_cons_succ, List.getElem?_cons_zero, List.getElem?_cons_succ, List.length_cons, List.length_nil, gSubL]
        have nn : 0 ≤ 2 * (if c < 0 then -c else c) + (if decide (c < 0) = true then 1 else 0) := by split <;> split <;> omega
        refine ⟨mul_l (by decide), dm, p, _, 2, 2, rfl, rfl, gp, rfl, hm, fin_of ?_⟩
        rw [ug]
        exact fin1 _ _ (Int.emod_nonneg _ (by omega)) (Int.emod_lt_of_pos _ hm) (Int.ediv_nonneg nn (by omega))
      · rw [if_neg (by rw [decide_eq_false y]; decide)]
        exact k
    · rw [decide_eq_false z]
      exact k
  rintro _ _ ⟨rfl, rfl⟩
  simp only [u_seq, u_asg, u_gN, u_ret, u_retN, u_skip, u_expr, u_ifs, u_c, u_op, u_neg, u_test, u_and, u_or, u_not, u_if, u_nil, u_cons, u_tup, u_lst, u_callP, u_call, u_b, u_chain, u_andV, u_addI, u_subI, u_mulI, u_divI, u_modI, u_powI, u_cmpI, u_eqI, u_eqS, u_eqB, u_abs, u_intI, u_intB, u_newT, u_newF, u_isN, u_notN, wVar, List.set_cons_zero, List.set_cons_succ, List.getElem?_cons_zero, List.getElem?_cons_succ, List.length_cons, List.length_nil]
  have b1 : 0 ≤ c % 2147483587 := Int.emod_nonneg _ (by decide)
  have b2 : c % 2147483587 < 2147483587 := Int.emod_lt_of_pos _ (by decide)
  have b3 : at_ ≤ 1000000 := by omega
  generalize e6 : (c % 2147483587 + 61027 * at_ + 29) = u
  have b6 : 0 ≤ u ∧ u < 2 ^ 63 := by omega
  generalize e7 : u ^ Int.toNat 3 % 2147483629 = v
  have b7 : 0 ≤ v ∧ v < 2147483629 := by rw [← e7]; exact ⟨Int.emod_nonneg _ (by decide), Int.emod_lt_of_pos _ (by decide)⟩
  have b8 : v * (2 * at_ + 9) ≤ 2147483629 * (2 * 1000000 + 9) := Int.mul_le_mul (by omega) (by omega) (by omega) (by omega)
  have b9 : 0 ≤ v * (2 * at_ + 9) := Int.mul_nonneg b7.1 (by omega)
  refine ⟨by decide, mul_l (by decide), ⟨by decide, by decide, by omega⟩, by decide, mul_l (by decide), mul_l (by omega), ⟨by decide, by decide, by omega⟩, by decide, ⟨by decide, .inl (by decide)⟩, hm, fin_of (fin0 _ (Int.emod_nonneg _ (by omega)) (Int.emod_lt_of_pos _ hm))⟩
end DL
namespace DL
open PySem PySem.Spec L2 C8 PyProof.Rows
/-! ### max(d, default=x), d with int keys -/
section
variable {X : Cx} {E : XK} {gz : Bool} {k : Nat} {o e : Expr} {wo wv : WE} {pos p kpos : Pos}
def wMaxDd (wl wk : WA) : WE := fun ρ h Q X => wl ρ h (fun xs h1 => wk ρ h1 (fun zs h2 => ∃ (x z : D) (kvs : List (Key × D)) (ks : List Int), xs = [x] ∧ zs = [z] ∧ dkOf h2 x = some kvs ∧ kvs.map (·.1) = ks.map Sum.inl ∧ (ks = [] → Q z h2) ∧ ∀ m, m ∈ ks → (∀ y ∈ ks, y ≤ m) → Q (.int m) h2) X) X
end
end DL
namespace DL
open PySem PySem.Spec L2 C8 PyProof.Rows
/-! ### tuple(d.items()) -/
/-- a pair of a dict as data -/
def kvD (e : Key × D) : D := .tup [kD e.1, e.2]
def wTupIt (wo : WE) : WE := fun ρ h Q X => wo ρ h (fun x h1 => ∃ kvs, dkOf h1 x = some kvs ∧ Q (.tup (kvs.map kvD)) h1) X
end DL
namespace DL
open PySem PySem.Spec L2 C8
/-! ### what a class gives, bundled -/
section
variable (P : Program) (w : World) (K : PySem.W.Frag) (mg : Str → Option Value) (base : Heap)
structure MakC (x : Str) (C : Addr) (k : Nat) (S : FSpec) : Prop where
  ex : ∃ fI, Mk K C fI ∧ FnRD P w K mg base k fI S
  mo : MoF S
  at_ : mg x = some (.ref C)
structure PrpC (C : Addr) (f : Str) (k : Nat) (S : FSpec) : Prop where
  cl : Cls K C
  ex : ∃ pa g fd ps, PropOf K C f pa g ∧ FnG false P w K mg base k g fd ps S ∧ Binds K fd ps []
end
section
variable {X : Cx} {E : XK} {gz : Bool} {k j : Nat} {o a b e fe : Expr} {es : List Expr} {wo wa wb we : WE} {wl : WA} {pos apos p sp_ : Pos} {f x m : Str} {C : Addr} {S : FSpec} {op : Operator}
theorem ag_prop (c : Cg gz X E k) (R : PrpC X.prog X.w X.K X.mg X.base C f j S) (hj : j + 1 ≤ k) (ho : AE X E o wo)
    (hab : attributeBase o f X.env (eval o X.env) = eval o X.env := by rfl) : AE X E (.Attribute o f pos) (wProp C S wo) := by
  obtain ⟨pa, g, fd, ps, h1, h2, h3⟩ := R.ex
  exact ae_prop c R.cl h1 h2 h3 hj ho hab
def wCalO (C : Addr) (S : FSpec) (wo : WE) (wl : WA) : WE := wCallO C S (fun ρ h Q X => wo ρ h (fun y h1 => (∃ fs, insOf h1 y = some (C, fs)) ∧ Q y h1) X) wl
end
/-! ### how the readings unfold -/
section
variable {ρ : EnvD} {h : AH} {Q : KD} {X : KX} {D0 : EndsD} {a b wo wv : WE} {wl wk : WA} {C : Addr} {S : FSpec} {f m : Str} {fs : List (Str × D)} {x y : D} {mm : Bool}
theorem u_prop : wProp C S wo ρ h Q X = wo ρ h (fun x h1 => isI C x h1 ∧ S [x] h1 Q (fun _ _ => False)) X := rfl
theorem u_fld : wFld C f wo ρ h Q X = wo ρ h (fun x h1 => ∃ fs d, insOf h1 x = some (C, fs) ∧ fs.lookup f = some d ∧ Q d h1) X := rfl
theorem u_setF : wSetF C f wo wv D0 ρ h = wv ρ h (fun z h1 => wo ρ h1 (fun x h2 => ∃ a fs, x = .ref a ∧ h2 a = some (.ins C fs) ∧ fs.length < 1000 ∧ D0.nx ρ (up h2 a (.ins C (putFD f z fs)))) D0.ex) D0.ex := rfl
theorem u_make : wMake C S wl ρ h Q X = wl ρ h (fun ds h1 => ∀ a, h1 a = none → S (.ref a :: ds) (up h1 a (.ins C [])) (fun v h2 => v = .non ∧ ∃ fs, h2 a = some (.ins C fs) ∧ Q (.ob C fs) (rm h2 a)) X) X := rfl
theorem u_makeS : wMakeS C S wo ρ h Q X = wo ρ h (fun y h1 => ∃ ds, seqOf h1 y = some ds ∧ ∀ a, h1 a = none → S (.ref a :: ds) (up h1 a (.ins C [])) (fun v h2 => v = .non ∧ ∃ fs, h2 a = some (.ins C fs) ∧ Q (.ob C fs) (rm h2 a)) X) X := rfl
theorem u_met : wMet C m S wo wl ρ h Q X = wo ρ h (fun x h1 => ∃ fs, insOf h1 x = some (C, fs) ∧ fs.lookup m = none ∧ wl ρ h1 (fun ds h2 => S (x :: ds) h2 Q X) X) X := rfl
theorem u_calO : wCalO C S wo wl ρ h Q X = wo ρ h (fun y h1 => (∃ fs, insOf h1 y = some (C, fs)) ∧ wl ρ h1 (fun ds h2 => (∃ fs, insOf h2 y = some (C, fs)) ∧ S (y :: ds) h2 Q X) X) X := rfl
theorem u_orT : wOrT a b ρ h Q X = a ρ h (fun x h1 => ∃ k, truD h1 x = some k ∧ if k = true then Q x h1 else b ρ h1 Q X) X := rfl
theorem u_tupIt : wTupIt wo ρ h Q X = wo ρ h (fun x h1 => ∃ kvs, dkOf h1 x = some kvs ∧ Q (.tup (kvs.map kvD)) h1) X := rfl
theorem u_dnew : wDnew ρ h Q X = ∀ p, h p = none → Q (.ref p) (up h p (.dK [])) := rfl
theorem u_dput {wi : WE} : wDput wo wi wv D0 ρ h = wv ρ h (fun z h1 => wo ρ h1 (fun x h2 => wi ρ h2 (fun y h3 => ∃ a kvs k, x = .ref a ∧ h3 a = some (.dK kvs) ∧ keyD y = some k ∧ kvs.length < sizeLine ∧ D0.nx ρ (up h3 a (.dK (putD kvs k z)))) D0.ex) D0.ex) D0.ex := rfl
theorem u_get2 {wi wx : WE} : wGet2 wo wi wx ρ h Q X = wo ρ h (fun x h1 => (dkOf h1 x).isSome = true ∧ wi ρ h1 (fun y h2 => wx ρ h2 (fun z h3 => ∃ kvs k, dkOf h3 x = some kvs ∧ keyD y = some k ∧ Q ((valD kvs k).getD z) h3) X) X) X := rfl
theorem u_dget {wi : WE} : wDGet wo wi ρ h Q X = wo ρ h (fun x h1 => wi ρ h1 (fun y h2 => ∃ kvs k d, dkOf h2 x = some kvs ∧ keyD y = some k ∧ valD kvs k = some d ∧ Q d h2) X) X := rfl
theorem u_dc {m : Bool} {wi : WI} {g : WG} {tt : WT} {tk tv : WE} {vs : List Nat} : wDc m wi g tt tk tv vs ρ h Q X = wi ρ h (fun xs st h1 => ∀ p, h1 p = none → dcD st g tt tk tv vs ρ p xs (up h1 p (.dK [])) (endK m p Q)) X := rfl
theorem u_maxDd : wMaxDd wl wk ρ h Q X = wl ρ h (fun xs h1 => wk ρ h1 (fun zs h2 => ∃ (x z : D) (kvs : List (Key × D)) (ks : List Int), xs = [x] ∧ zs = [z] ∧ dkOf h2 x = some kvs ∧ kvs.map (·.1) = ks.map Sum.inl ∧ (ks = [] → Q z h2) ∧ ∀ m, m ∈ ks → (∀ y ∈ ks, y ≤ m) → Q (.int m) h2) X) X := rfl
end
end DL
namespace DL
open PySem PySem.Spec L2 C8
/-! ### lists of pairs of ints as dicts and ledgers: plain theory -/
abbrev Prs := List (Int × Int)
/-! ### the same as data -/
end DL
namespace DL
open PySem PySem.Spec L2 C8
/-! ### dict comprehensions over what does not change -/
theorem ix_p0 {r : Int × Int} {h : AH} {Q : KD} : dIx (pairD r) (.int 0) h Q = Q (.int r.1) h := u_ixTd at0
theorem ix_p1 {r : Int × Int} {h : AH} {Q : KD} : dIx (pairD r) (.int 1) h Q = Q (.int r.2) h := u_ixTd at1
/-! ### the small defs -/
section
variable {ρ : EnvD} {h : AH} {Q : KD} {X : KX} {D0 : EndsD} {x : D} {t : String}
theorem tyD_in (e : tyD h x = some t) : t = "NoneType" ∨ t = "bool" ∨ t = "int" ∨ t = "str" ∨ t = "tuple" ∨ t = "list" ∨ t = "dict" := by
  unfold tyD at e
  split at e <;> first | (cases e; simp) | cases e
end
def S_isInt : FSpec := fun ds h Q _ => ∃ x t, ds = [x] ∧ tyD h x = some t ∧ Q (.bl (decide (t = "int"))) h
def wr_isInt : WS := (wRet (wAndV (wB dIsi (wCons (wVar 0) (wCons (wC (.ty "int")) wNil))) (wNotV (wB dIsi (wCons (wVar 0) (wCons (wC (.ty "bool")) wNil))))))
theorem pr_isInt : ∀ ds h Q X, S_isInt ds h Q X → wr_isInt (endsD Q X) (startD 1 ds) h := by
  rintro ds h Q X ⟨x, t, rfl, e, q⟩
  show wr_isInt (endsD Q X) [some x] h
  simp only [wr_isInt, u_asg, u_gN, u_ret, u_retN, u_skip, u_expr, u_ifs, u_c, u_op, u_neg, u_test, u_and, u_or, u_not, u_if, u_nil, u_cons, u_tup, u_lst, u_callP, u_call, u_b, u_chain, u_andV, u_addI, u_subI, u_mulI, u_divI, u_modI, u_powI, u_cmpI, u_eqI, u_eqS, u_eqB, u_abs, u_intI, u_intB, u_newT, u_newF, u_isN, u_notN, wVar, List.set_cons_zero, List.set_cons_succ, List.getElem?_cons_zero, List.getElem?_cons_succ, List.length_cons, List.length_nil, u_lc, u_for, u_r1, u_r2, u_r3, u_num, u_notV, u_yes, u_w0, u_w1]
  rcases tyD_in e with rfl | rfl | rfl | rfl | rfl | rfl | rfl
  · exact ⟨x, _, "int", false, rfl, e, rfl, fin_of q⟩
  · exact ⟨x, _, "int", true, rfl, e, rfl, x, _, "bool", true, rfl, e, rfl, fin_of q⟩
  · exact ⟨x, _, "int", true, rfl, e, rfl, x, _, "bool", false, rfl, e, rfl, fin_of q⟩
  · exact ⟨x, _, "int", false, rfl, e, rfl, fin_of q⟩
  · exact ⟨x, _, "int", false, rfl, e, rfl, fin_of q⟩
  · exact ⟨x, _, "int", false, rfl, e, rfl, fin_of q⟩
  · exact ⟨x, _, "int", false, rfl, e, rfl, fin_of q⟩
theorem len_isInt : ∀ ds h Q X, S_isInt ds h Q X → ds.length = 1 := fun _ _ _ _ ⟨_, _, e, _⟩ => by rw [e]; rfl
theorem mo_isInt : MoF S_isInt := fun _ _ _ _ _ _ hq _ ⟨a, b, e, o, q⟩ => ⟨a, b, e, o, hq _ _ q⟩
def btw (x : D) (lo hi : Int) : Bool := match x with
  | .int i => decide (lo ≤ i) && decide (i ≤ hi)
  | _ => false
def S_isBtw : FSpec := fun ds h Q _ => ∃ x t lo hi, ds = [x, .int lo, .int hi] ∧ tyD h x = some t ∧ Q (.bl (btw x lo hi)) h
def wr_isBtw : WS := (wRet (wAndV (wCallP S_isInt 1 (fun ds _ => ds) (wCons (wVar 0) wNil)) (wChain (dCmpI fun i j => decide (i ≤ j)) (dCmpI fun i j => decide (i ≤ j)) (wVar 1) (wVar 0) (wVar 2))))
theorem ty_isint {h : AH} {x : D} (e : tyD h x = some "int") : ∃ i, x = .int i := by
  cases x with
  | int i => exact ⟨i, rfl⟩
  | ref a =>
    cases ea : h a with
    | none => simp [tyD, cur, ea] at e
    | some o => cases o <;> simp [tyD, cur, ea] at e
  | _ => simp [tyD, cur] at e
theorem ty_noint {h : AH} {x : D} {t : String} (e : tyD h x = some t) (n : t ≠ "int") {lo hi : Int} : btw x lo hi = false := by
  cases x with
  | int i => exact absurd (Option.some.inj e).symm n
  | _ => rfl
theorem pr_isBtw : ∀ ds h Q X, S_isBtw ds h Q X → wr_isBtw (endsD Q X) (startD 3 ds) h := by
  rintro ds h Q X ⟨x, t, lo, hi, rfl, e, q⟩
  show wr_isBtw (endsD Q X) [some x, some (.int lo), some (.int hi)] h
  simp only [wr_isBtw, u_asg, u_gN, u_ret, u_retN, u_skip, u_expr, u_ifs, u_c, u_op, u_neg, u_test, u_and, u_or, u_not, u_if, u_nil, u_cons, u_tup, u_lst, u_callP, u_call, u_b, u_chain, u_andV, u_addI, u_subI, u_mulI, u_divI, u_modI, u_powI, u_cmpI, u_eqI, u_eqS, u_eqB, u_abs, u_intI, u_intB, u_newT, u_newF, u_isN, u_notN, wVar, List.set_cons_zero, List.set_cons_succ, List.getElem?_cons_zero, List.getElem?_cons_succ, List.length_cons, List.length_nil, u_lc, u_for, u_r1, u_r2, u_r3, u_num, u_notV, u_yes, u_w0, u_w1]
  refine ⟨trivial, x, t, rfl, e, ?_⟩
  by_cases c : t = "int"
  · subst c
    obtain ⟨i, rfl⟩ := ty_isint e
    have q : Q (.bl (decide (lo ≤ i) && decide (i ≤ hi))) h := q
    simp only [decide_true, if_true, u_cmpI]
    by_cases d : lo ≤ i
    · rw [decide_eq_true d] at q ⊢
      exact fin_of q
    · rw [decide_eq_false d] at q ⊢
      exact fin_of q
  · rw [ty_noint e c] at q
    simp only [decide_eq_false c]
    exact fin_of q
theorem len_isBtw : ∀ ds h Q X, S_isBtw ds h Q X → ds.length = 3 := fun _ _ _ _ ⟨_, _, _, _, e, _⟩ => by rw [e]; rfl
theorem mo_isBtw : MoF S_isBtw := fun _ _ _ _ _ _ hq _ ⟨a, b, c, d, e, o, q⟩ => ⟨a, b, c, d, e, o, hq _ _ q⟩
end DL
namespace DL
open PySem PySem.Spec L2 C8
section
variable {X : Cx} {E : XK} {tg l : Expr} {wa : WE}
/-- a list or a tuple, walked -/
def iAny (wa : WE) : WI := fun ρ h R X => wa ρ h (fun x h1 => match x with
  | .tup xs => R xs (fun _ => True) h1
  | .tpl xs => R xs (fun _ => True) h1
  | .lst xs => R xs (fun _ => True) h1
  | .ref a => ∃ xs, h1 a = some (.lst xs) ∧ R xs (fun h => h a = some (.lst xs)) h1
  | _ => False) X
theorem u_any {a : WE} {ρ : EnvD} {h : AH} {X : KX} {R : List D → (AH → Prop) → AH → Prop} : iAny a ρ h R X = a ρ h (fun x h1 => match x with
  | .tup xs => R xs (fun _ => True) h1
  | .tpl xs => R xs (fun _ => True) h1
  | .lst xs => R xs (fun _ => True) h1
  | .ref a => ∃ xs, h1 a = some (.lst xs) ∧ R xs (fun h => h a = some (.lst xs)) h1
  | _ => False) X := rfl
/-- a sequence that does not change -/
def IsS (d : D) (xs : List D) : Prop := d = .tup xs ∨ d = .tpl xs ∨ d = .lst xs
theorem IsS.iter {d : D} {xs : List D} (t : IsS d xs) {ρ : EnvD} {h : AH} {X : KX} {i : Nat} {R : List D → (AH → Prop) → AH → Prop} (e : ρ[i]? = some (some d)) (k : R xs (fun _ => True) h) : iAny (wVar i) ρ h R X := by
  rw [u_any, u_var e]
  rcases t with rfl | rfl | rfl <;> exact k
end
/-! ### isinstance of an own class -/
theorem cst_ref {K : PySem.W.Frag} {mg : Str → Option Value} {x : Str} {C : Addr} (h : mg x = some (.ref C)) : Cst K mg x (.ref C) := ⟨⟨.ref C, _, h, rfl, fun _ => .ref C⟩⟩
end DL
namespace DL
open PySem PySem.Spec L2 C8
theorem cut_from {α : Type} (xs : List α) (n : Nat) : cutD xs (some (n : Int)) none = xs.drop n := by
  unfold cutD
  have e0 : HT.sIx xs.length xs.length none = xs.length := rfl
  rw [e0, HT.sIx_nat]
  by_cases h : n ≤ xs.length
  · rw [Nat.min_eq_left h]
    exact List.take_of_length_le (by rw [List.length_drop]; exact Nat.le_refl _)
  · rw [Nat.min_eq_right (by omega)]
    simp
    omega
end DL
namespace L2
open PySem PySem.Spec PyProof.Rows
mutual
/-- a pattern of texts: none takes all -/
inductive PatOk : Pattern → Option (List Str) → Prop
  | val {w : Str} {j p q} : PatOk (.MatchValue (.Constant (.str w) j p) q) (some [w])
  | or {ps : List Pattern} {ws : List Str} {q} (h : PatsOk ps ws) : PatOk (.MatchOr ps q) (some ws)
  | any {q} : PatOk (.MatchAs none none q) none
inductive PatsOk : List Pattern → List Str → Prop
  | nil : PatsOk [] []
  | cons {w : Str} {j p q} {ps : List Pattern} {ws : List Str} (h : PatsOk ps ws) : PatsOk (.MatchValue (.Constant (.str w) j p) q :: ps) (w :: ws)
end
def takesW : Option (List Str) → Str → Bool
  | none, _ => true
  | some ws, x => ws.any fun w => decide (x = w)
inductive CasesOk (X : Cx) : List MatchCase → List (Option (List Str) × TS) → Prop
  | nil : CasesOk X [] []
  | cons {p : Pattern} {o : Option (List Str)} {body : List Stmt} {t : TS} {rest : List MatchCase} {l : List (Option (List Str) × TS)} (hp : PatOk p o) (hb : PSs X body t) (r : CasesOk X rest l) : CasesOk X (⟨p, none, body⟩ :: rest) ((o, t) :: l)
end L2
namespace DL
open PySem PySem.Spec L2
/-- the cases of a match over a text -/
def pickM : List (Option (List Str) × WS) → Str → WS
  | [], _ => wSkip
  | (o, s) :: r, w => fun D ρ h => if takesW o w = true then s D ρ h else pickM r w D ρ h
section
variable {X : Cx} {E : XK} {e : Expr} {we : WE} {pos : Pos}
inductive ACs (X : Cx) (E : XK) : List MatchCase → List (Option (List Str) × WS) → Prop
  | nil : ACs X E [] []
  | cons {p : Pattern} {o : Option (List Str)} {body : List Stmt} {t : WS} {rest : List MatchCase} {l : List (Option (List Str) × WS)} (hp : PatOk p o) (hb : ASs X E body t) (r : ACs X E rest l) : ACs X E (⟨p, none, body⟩ :: rest) ((o, t) :: l)
theorem ACs.cs {cs : List MatchCase} {l : List (Option (List Str) × WS)} (h : ACs X E cs l) : CasesOk X cs (l.map fun x => (x.1, tS X.K E x.2)) := by
  induction h with
  | nil => exact .nil
  | cons hp hb r ih => exact .cons hp hb.run ih
theorem ACs.mo {cs : List MatchCase} {l : List (Option (List Str) × WS)} (h : ACs X E cs l) : ∀ w, MoS (pickM l w) := by
  induction h with
  | nil => intro w D D' ρ h l q; exact l.nx _ _ q
  | @cons p o body t rest l hp hb r ih =>
    intro w D D' ρ h le q
    unfold pickM at q ⊢
    by_cases c : takesW o w = true
    · rw [if_pos c] at q ⊢; exact hb.mo _ _ _ _ le q
    · rw [if_neg c] at q ⊢; exact ih w _ _ _ _ le q
end
end DL
namespace DL
open PySem PySem.Spec L2 C8
/-! ### two ways to read one thing (an instance of one class or of another) -/
def wOrE (a b : WE) : WE := fun ρ h Q X => a ρ h Q X ∨ b ρ h Q X
def wOrS (a b : WS) : WS := fun D ρ h => a D ρ h ∨ b D ρ h
section
variable {X : Cx} {E : XK} {e : Expr} {st : Stmt} {a b : WE} {s1 s2 : WS}
theorem AE.or (h1 : AE X E e a) (h2 : AE X E e b) : AE X E e (wOrE a b) := by
  refine ⟨⟨fun pins s σ H Q I h => ?_⟩, fun ρ h Q Q' X X' hq hx q => q.elim (fun q => .inl (h1.mo _ _ _ _ _ _ hq hx q)) (fun q => .inr (h2.mo _ _ _ _ _ _ hq hx q))⟩
  obtain ⟨F, ρ, g, S, R, q⟩ := h
  rcases q with q | q
  · exact h1.run.run pins s σ H Q I ⟨F, ρ, g, S, R, q⟩
  · exact h2.run.run pins s σ H Q I ⟨F, ρ, g, S, R, q⟩
theorem AS.or (h1 : AS X E st s1) (h2 : AS X E st s2) : AS X E st (wOrS s1 s2) := by
  refine ⟨⟨fun pins s σ H D I h => ?_⟩, fun D D' ρ h l q => q.elim (fun q => .inl (h1.mo _ _ _ _ l q)) (fun q => .inr (h2.mo _ _ _ _ l q))⟩
  obtain ⟨F, ρ, g, S, R, q⟩ := h
  rcases q with q | q
  · exact h1.run.run pins s σ H D I ⟨F, ρ, g, S, R, q⟩
  · exact h2.run.run pins s σ H D I ⟨F, ρ, g, S, R, q⟩
end
/-! ### starred parts -/
/-- *e, .. -/
def wStar (we : WE) (wl : WA) : WA := fun ρ h Q X => we ρ h (fun x h1 => ∃ xs, seqOf h1 x = some xs ∧ wl ρ h1 (fun ys h2 => Q (xs ++ ys) h2) X) X
section
variable {X : Cx} {E : XK} {gz : Bool} {k j i : Nat} {o e value : Expr} {es : List Expr} {we wo wv : WE} {wl : WA} {pos apos p sp_ pos' tpos : Pos} {f m x : Str} {C g : Addr} {S : FSpec}
theorem aa_star (he : AE X E e we) (hr : AA X E es wl) (hs : starEach (.Starred e p :: es) X.env = (true, eval e X.env) :: starEach es X.env := by rfl) : AA X E (.Starred e p :: es) (wStar we wl) := by
  refine ⟨PA.imp (StX.pa_star he.run hr.run hs) fun σ H Q ⟨F, ρ, g, S, R, q⟩ => ?_, fun ρ h Q Q' X X' hq hx q => he.mo _ _ _ _ _ _ (fun x h1 ⟨xs, e, z⟩ => ⟨xs, e, hr.mo _ _ _ _ _ _ (fun ys h2 z => hq _ _ z) hx z⟩) hx q⟩
  refine ⟨F, ρ, g, S, R, he.mo _ _ _ _ _ _ (fun x h1 z => ?_) (fun _ _ z => z) q⟩
  intro F1 H1 vx e1 S1 rx
  obtain ⟨xs, ex, z⟩ := z
  obtain ⟨a, vs, rfl, hs, rs⟩ := S1.seqOf rx ex
  refine ⟨a, vs, rfl, hs.symm, F1, ρ, h1, S1, R.ext e1, hr.mo _ _ _ _ _ _ (fun ys h2 z => ?_) (fun _ _ z => LX.ext e1 z) z⟩
  intro F2 H2 ws e2 S2 rw'
  exact z F2 H2 _ (e1.trans e2) S2 ((rs.ext e2).append rw')
/-! ### class constants -/
/-! ### e.f op= value -/
/-! ### classmethods -/
structure CMetC (P : Program) (w : World) (K : PySem.W.Frag) (mg : Str → Option Value) (base : Heap) (C : Addr) (m : Str) (k : Nat) (S : FSpec) : Prop where
  ex : ∃ mc p g, ClX.CRead K C mc ∧ ClX.CMet K C mc m p g ∧ FnRD P w K mg base k g S
  mo : MoF S
/-- o.m(..), o the class C, m a classmethod -/
def wCMet (C : Addr) (S : FSpec) (wo : WE) (wl : WA) : WE := fun ρ h Q X => wo ρ h (fun x h1 => x = .ref C ∧ wl ρ h1 (fun ds h2 => S (.ref C :: ds) h2 Q X) X) X
theorem ag_cmet {pl : Sem Bool} (c : Cg gz X E k) (M : CMetC X.prog X.w X.K X.mg X.base C m j S) (hj : j ≤ k) (ho : AE X E o wo) (ha : AA X E (e :: es) wl)
    (hst : starEach (e :: es) X.env = (false, eval e X.env) :: starEach es X.env := by rfl) (hpl : (backTo pos (starEach es X.env)).any (·.1) = false := by rfl)
    (ht : eval (.Call (.Attribute o m apos) (e :: es) [] pos) X.env = (do let ov ← eval o X.env; standAt apos.atName; let (f, first) ← holding [ov] (getMethod ov m pl); callWith pos f first (backTo pos (starEach (e :: es) X.env)) (backToKw pos (keywordEach [] X.env))) := by rfl) : AE X E (.Call (.Attribute o m apos) (e :: es) [] pos) (wCMet C S wo wl) := by
  obtain ⟨mc, p, g, r, cm, G⟩ := M.ex
  have mo := M.mo
  refine ⟨PE.imp (ClX.pe_cmeth (pl := pl) ho.run r cm (G.mono hj) c.room c.ps ha.run hst hpl ht) fun σ H Q ⟨F, ρ, h, S0, R, q⟩ => ?_, fun ρ h Q Q' X X' hq hx q => ho.mo _ _ _ _ _ _ (fun x h1 ⟨e1, z⟩ => ⟨e1, ha.mo _ _ _ _ _ _ (fun ds h2 z => mo _ _ _ _ _ _ hq hx z) hx z⟩) hx q⟩
  refine ⟨F, ρ, h, S0, R, ho.mo _ _ _ _ _ _ (fun x h1 z => ?_) (fun _ _ z => z) q⟩
  intro F1 H1 v e1 S1 r
  obtain ⟨rfl, z⟩ := z
  cases r
  refine ⟨rfl, F1, ρ, h1, S1, R.ext e1, ha.mo _ _ _ _ _ _ (fun ds h2 z => ?_) (fun _ _ z => LX.ext e1 z) z⟩
  intro F2 H2 us e2 S2 rs2
  exact ⟨F2, _, h2, S2, .cons (.ref C) rs2, mo _ _ _ _ _ _ (fun _ _ z => LQ.ext (e1.trans e2) z) (fun _ _ z => LX.ext (e1.trans e2) z) z⟩
/-- x(*e), x a variable that holds the class C -/
def wMakeVS (C : Addr) (S : FSpec) (i : Nat) (we : WE) : WE := fun ρ h Q X => ρ[i]? = some (some (.ref C)) ∧ wMakeS C S we ρ h Q X
theorem ag_makeVS (i : Nat) (c : Cg gz X E k) (M : MakC X.prog X.w X.K X.mg X.base m C j S) (hj : j + 1 ≤ k) (he : AE X E e we) (hN : X.N[i]? = some x := by rfl) (hv : Vis X.env.scope x := by first | exact Or.inl rfl | exact Or.inr (Or.inl rfl) | exact Or.inr (Or.inr rfl))
    (hdb : (x == ("__debug__" : Str)) = false := by decide) (hcd : (x == ("__classdict__" : Str)) = false := by decide) (hst : starEach [.Starred e sp_] X.env = [(true, eval e X.env)] := by rfl) : AE X E (.Call (.Name x p) [.Starred e sp_] [] pos) (wMakeVS C S i we) := by
  obtain ⟨fI, Mk, G⟩ := M.ex
  have mo := M.mo
  refine ⟨⟨fun pins s σ H Q I hq => ?_⟩, fun ρ h Q Q' X X' hq hx q => ⟨q.1, he.mo _ _ _ _ _ _ (fun y h1 ⟨ds, e0, z⟩ => ⟨ds, e0, fun a hz => mo _ _ _ _ _ _ (fun v h2 ⟨e1, fs, e2, z⟩ => ⟨e1, fs, e2, hq _ _ z⟩) hx (z a hz)⟩) hx q.2⟩⟩
  obtain ⟨F, ρ, h, S0, R, hi, q⟩ := hq
  obtain ⟨vC, hvC, rC⟩ := R.2 i _ hi
  cases rC
  refine wpAny_Call_Name_kw (thn ((pe_var (pos := p) (i := i) hN hv hdb hcd).run pins s σ H (fun v H1 => v = .ref C ∧ H1 = H) I ⟨.ref C, hvC, rfl, rfl⟩) fun u s1 ⟨v, H1, I1, r1, ev, eH⟩ => ?_)
  subst ev eH
  obtain rfl : u = Value.ref C := r1
  refine PySem.W.callWith_S (h₀ := X.base) I1.ok.mod.kin Mk.kp (thn (he.run.run pins s1 σ H1 (fun y H1 => ∃ a xs, y = V.ref a ∧ (SqT X.K H1 a xs ∨ SqL X.K H1 a xs) ∧ ∀ x dx, H1 x = none → H1 dx = none → dx ≠ x → spD X.K S (V.ref x :: xs) (upd (upd H1 dx (.own x)) x (.ins C dx [])) (fun v H2 => v = .non ∧ Q (.ref x) H2) E) I1
    ⟨F, ρ, h, S0, R, he.mo _ _ _ _ _ _ (fun y h1 z F1 H1 v e1 S1 r => ?_) (fun _ _ z => z) q⟩) fun v s1 ⟨y, H1, I1, ry, a, xs, ey, hxs, q1⟩ => ?_) hst
  · obtain ⟨ds, e0, z⟩ := z
    obtain ⟨a, vs, rfl, hs, rs⟩ := S1.seqOf r e0
    exact ⟨a, vs, rfl, hs.symm, make_to mo S1 rs fun a ha => mo _ _ _ _ _ _ (fun v h2 ⟨z1, fs, z2, z⟩ => ⟨z1, fs, z2, LQ.ext e1 z⟩) (fun _ _ z => LX.ext e1 z) (z a ha)⟩
  · subst ey
    obtain rfl : v = Value.ref a := ry
    exact StX.star_any I1 hxs fun us s2 I2 rv => ⟨I2.kIn, StX.run_makeR Mk G (c.room.mono hj) c.ps I2 rv q1⟩
end
end DL
namespace DL
open PySem PySem.Spec L2 C8
/-- where the package's classes stand -/
structure Ad where
  Program : Addr := 0
  LineProgram : Addr := 0
  Walk : Addr := 0
  Ledger : Addr := 0
  Lengths : Addr := 0
  Kind : Addr := 0
  Machine : Addr := 0
  LateMachine : Addr := 0
  Trial : Addr := 0
  Group : Addr := 0
  Ground : Addr := 0
  BodyReader : Addr := 0
  Meter : Addr := 0
  Change : Addr := 0
  Desk : Addr := 0
  Account : Addr := 0
  EchoError : Addr := 0
  SizeError : Addr := 0
  AbsentError : Addr := 0
  InvalidProgram : Addr := 0
  InvalidMode : Addr := 0
  InvalidNumber : Addr := 0
  InvalidCapacity : Addr := 0
  InvalidRow : Addr := 0
  InvalidTable : Addr := 0
  InvalidAccount : Addr := 0
  InvalidReading : Addr := 0
  InvalidBound : Addr := 0
  InvalidText : Addr := 0
  Lossy : Addr := 0
  DifferentModes : Addr := 0
  Contradiction : Addr := 0
  UnknownCommand : Addr := 0
  TooLarge : Addr := 0
  TooLong : Addr := 0
  TooManyProcesses : Addr := 0
  Full : Addr := 0
  NoPlace : Addr := 0
  NoPoint : Addr := 0
  NoReading : Addr := 0
  NoName : Addr := 0
  NothingToUndo : Addr := 0
  Finished : Addr := 0
  t0 : Addr := 0
  t1 : Addr := 0
  t2 : Addr := 0
  t3 : Addr := 0
  t4 : Addr := 0
  t5 : Addr := 0
  t6 : Addr := 0
  t7 : Addr := 0
  t8 : Addr := 0
  t9 : Addr := 0
  t10 : Addr := 0
  t11 : Addr := 0
  t12 : Addr := 0
  t13 : Addr := 0
  t14 : Addr := 0
  t15 : Addr := 0
section
variable {ρ : EnvD} {h : AH} {Q : KD} {X : KX} {D0 : EndsD} {a b wo wv we : WE} {wl : WA} {C : Addr} {S : FSpec} {f m : Str} {fs : List (Str × D)} {x y d : D} {i : Nat} {fd : D → D → AH → KD → Prop} {s1 s2 : WS}
theorem u_orS : wOrS s1 s2 D0 ρ h = (s1 D0 ρ h ∨ s2 D0 ρ h) := rfl
theorem u_star {Q : List D → AH → Prop} : wStar we wl ρ h Q X = we ρ h (fun x h1 => ∃ xs, seqOf h1 x = some xs ∧ wl ρ h1 (fun ys h2 => Q (xs ++ ys) h2) X) X := rfl
end
end DL
namespace PK
open PySem PySem.Spec L2 C8 DL
abbrev N_is_integer : List Str := ["value"]
abbrev N_is_between : List Str := ["value", "least", "most"]
abbrev N_is_head : List Str := ["value", "word", "parts"]
abbrev N_inner_of : List Str := ["action"]
abbrev N_bytes_of : List Str := ["action"]
abbrev N_wrong_in : List Str := ["body", "place", "count", "index", "action", "here", "wrong"]
abbrev N_first_wrong : List Str := ["body"]
abbrev N_size_in : List Str := ["body", "total", "action", "many"]
abbrev N_bytes_in : List Str := ["body", "total", "action"]
abbrev N_reach_in : List Str := ["body", "here", "most", "action", "many"]
abbrev N_Program___init__ : List Str := ["self", "actions", "wrong", "size", "reach"]
abbrev N_Program_of : List Str := ["cls", "body"]
abbrev N_Program_size : List Str := ["self"]
abbrev N_Program_reach : List Str := ["self"]
end PK
namespace PK
open PySem PySem.Spec L2 C8 DL
/-! ### things: data of all kinds, no dict but {} -/
mutual
def th : D → Bool
  | .non => true
  | .bl _ => true
  | .int i => decide (i.natAbs < 2 ^ 64)
  | .str _ => true
  | .tup xs => decide (xs.length ≤ 1000) && ths xs
  | .lst xs => decide (xs.length ≤ 1000) && ths xs
  | .dK kvs => kvs.isEmpty
  | .tpl _ => false
  | .ref _ => false
  | .ty _ => false
  | .lk _ => false
  | .ob _ _ => false
  | .xob _ _ => false
  | .lam _ _ _ _ _ => false
  | .dT _ => false
def ths : List D → Bool
  | [] => true
  | x :: xs => th x && ths xs
end
mutual
def dep : D → Nat
  | .tup xs => deps xs
  | .lst xs => deps xs
  | .tpl xs => deps xs
  | .non => 0
  | .bl _ => 0
  | .int _ => 0
  | .str _ => 0
  | .dK _ => 0
  | .ref _ => 0
  | .ty _ => 0
  | .lk _ => 0
  | .ob _ _ => 0
  | .xob _ _ => 0
  | .lam _ _ _ _ _ => 0
  | .dT _ => 0
def deps : List D → Nat
  | [] => 0
  | x :: xs => max (dep x + 1) (deps xs)
end
def bare (w : Str) : Bool := inD (.str w) [.str "line", .str "flush", .str "drop", .str "both", .str "exit", .str "quit"]
def isTup : D → Bool
  | .tup _ => true
  | _ => false
/-- the head of an action: its own judgement -/
def headL : List D → Bool
  | [] => false
  | .str w :: ps =>
    if bare w = true then ps.isEmpty
    else if w = ("write" : Str) then (match ps with
      | [x] => btw x 1 2000
      | _ => false)
    else if w = ("fork" : Str) then (match ps with
      | [x] => isTup x
      | _ => false)
    else if w = ("repeat" : Str) then (match ps with
      | [x, y] => btw x 0 300 && isTup y
      | _ => false)
    else false
  | _ => false
def headD : D → Bool
  | .tup xs => headL xs
  | _ => false
/-- what is within -/
def innD : List D → D
  | .str w :: ps => if w = ("fork" : Str) ∨ w = ("repeat" : Str) then (ps.getLast?.getD (.str w)) else .tup []
  | _ => .tup []
def bytD : List D → D
  | .str w :: ps => if w = ("write" : Str) then ps.headD (.int 0) else if w = ("line" : Str) then .int 1 else .int 0
  | _ => .int 0
abbrev S_is_integer (z : Ad) : FSpec := S_isInt
abbrev S_is_between (z : Ad) : FSpec := S_isBtw
def S_is_head (z : Ad) : FSpec := fun ds h Q _ => ∃ x, ds = [x] ∧ th x = true ∧ Q (.bl (headD x)) h
def S_inner_of (z : Ad) : FSpec := fun ds h Q _ => ∃ xs, ds = [.tup xs] ∧ headL xs = true ∧ Q (innD xs) h
def S_bytes_of (z : Ad) : FSpec := fun ds h Q _ => ∃ xs, ds = [.tup xs] ∧ headL xs = true ∧ Q (bytD xs) h
/-! ### actions and bodies -/
inductive Ac where
  | bare (w : Str) | write (n : Nat) | fork (b : List Ac) | rep (n : Nat) (b : List Ac)
mutual
def enc : Ac → D
  | .bare w => .tup [.str w]
  | .write n => .tup [.str "write", .int n]
  | .fork b => .tup [.str "fork", .tup (encs b)]
  | .rep n b => .tup [.str "repeat", .int n, .tup (encs b)]
def encs : List Ac → List D
  | [] => []
  | a :: r => enc a :: encs r
end
def word : Ac → Str
  | .bare w => w
  | .write _ => "write"
  | .fork _ => "fork"
  | .rep _ _ => "repeat"
def inn : Ac → List Ac
  | .bare _ => []
  | .write _ => []
  | .fork b => b
  | .rep _ b => b
def byt : Ac → Nat
  | .bare w => if w = "line" then 1 else 0
  | .write n => n
  | .fork _ => 0
  | .rep _ _ => 0
mutual
def okA : Ac → Bool
  | .bare w => PK.bare w
  | .write n => decide (1 ≤ n) && decide (n ≤ 2000)
  | .fork b => okB b
  | .rep n b => decide (n ≤ 300) && okB b
def okB : List Ac → Bool
  | [] => true
  | a :: r => okA a && okB r
end
mutual
def dptA : Ac → Nat
  | .bare _ => 1
  | .write _ => 1
  | .fork b => dptB b + 1
  | .rep _ b => dptB b + 1
def dptB : List Ac → Nat
  | [] => 0
  | a :: r => max (dptA a) (dptB r)
end
mutual
def cntA : Ac → Nat
  | .bare _ => 1
  | .write _ => 1
  | .fork b => cntB b + 1
  | .rep _ b => cntB b + 1
def cntB : List Ac → Nat
  | [] => 0
  | a :: r => cntA a + cntB r
end
mutual
def sizA : Ac → Nat
  | .bare _ => 1
  | .write _ => 1
  | .fork b => 1 + sizB b
  | .rep n b => n * sizB b
def sizB : List Ac → Nat
  | [] => 0
  | a :: r => sizA a + sizB r
end
/-! .. a repeat of none counted as one -/
mutual
def bynA : Ac → Nat
  | .bare w => byt (.bare w)
  | .write n => n
  | .fork _ => 0
  | .rep n b => n * bynB b
def bynB : List Ac → Nat
  | [] => 0
  | a :: r => bynA a + bynB r
end
mutual
/-- the greatest number on a way: of one action that stands at here, with the greatest so far -/
def rchA : Ac → Nat → Nat → Nat
  | .bare w, _, m => m
  | .write n, _, m => m
  | .fork b, h, m => max m (h + rchL b 0 0)
  | .rep n b, h, m => if n = 0 then m else max m (h + (n - 1) * bynB b + rchL b 0 0)
def rchL : List Ac → Nat → Nat → Nat
  | [], h, m => max m h
  | a :: r, h, m => rchL r (h + bynA a) (rchA a h m)
end
def rchB (b : List Ac) : Nat := rchL b 0 0
/-! all actions with their places -/
def natD (i : Nat) : D := .int i
def plcD (p : List Nat) : D := .tup (p.map natD)
/-! the words, children behind their action -/
def S_wrong_in (z : Ad) (n : Nat) : FSpec := fun ds h Q _ => ∃ (b : List Ac) (p : List Nat) (c : Nat), ds = [.tup (encs b), plcD p, .int c] ∧ okB b = true ∧ dptB b < n ∧ p.length + dptB b ≤ 6 ∧ c + cntB b ≤ 300 ∧ Q (.tup [.non, .int ((c + cntB b : Nat) : Int)]) h
/-- what a program can be made of -/
structure Fit (b : List Ac) : Prop where
  ok : okB b = true
  dpt : dptB b ≤ 6
  cnt : cntB b ≤ 300
  siz : sizB b ≤ 2000
  rch : rchB b ≤ 2000
def S_first_wrong (z : Ad) : FSpec := fun ds h Q _ => ∃ b, ds = [.tup (encs b)] ∧ Fit b ∧ Q .non h
def S_size_in (z : Ad) (n : Nat) : FSpec := fun ds h Q _ => ∃ b, ds = [.tup (encs b)] ∧ okB b = true ∧ dptB b < n ∧ Q (.int (sizB b : Nat)) h
def S_bytes_in (z : Ad) (n : Nat) : FSpec := fun ds h Q _ => ∃ b, ds = [.tup (encs b)] ∧ okB b = true ∧ dptB b < n ∧ Q (.int (bynB b : Nat)) h
def S_reach_in (z : Ad) (n : Nat) : FSpec := fun ds h Q _ => ∃ b, ds = [.tup (encs b)] ∧ okB b = true ∧ dptB b < n ∧ dptB b < 12 ∧ Q (.int (rchB b : Nat)) h
/-! ### programs: of the one class or the other -/
def clsOf (z : Ad) (lm : Bool) : Addr := if lm = true then z.LineProgram else z.Program
def prog (z : Ad) (lm : Bool) (b : List Ac) : D := .ob (clsOf z lm) [("held", .tup (encs b))]
def S_Program___init__ (z : Ad) : FSpec := fun ds h Q _ => ∃ lm a b, ds = [.ref a, .tup (encs b)] ∧ h a = some (.ins (clsOf z lm) []) ∧ Fit b ∧ Q .non (up h a (.ins (clsOf z lm) [("held", .tup (encs b))]))
def S_Program_of (z : Ad) : FSpec := fun ds h Q _ => ∃ lm b, ds = [.ref (clsOf z lm), .tup (encs b)] ∧ Fit b ∧ Q (prog z lm b) h
def S_Program_size (z : Ad) : FSpec := fun ds h Q _ => ∃ lm b, ds = [prog z lm b] ∧ okB b = true ∧ dptB b ≤ 6 ∧ Q (.int (sizB b : Nat)) h
def S_Program_reach (z : Ad) : FSpec := fun ds h Q _ => ∃ lm b, ds = [prog z lm b] ∧ okB b = true ∧ dptB b ≤ 6 ∧ Q (.int (rchB b : Nat)) h
/-! ### the walk -/
end PK
namespace PK
open PySem PySem.Spec L2 C8 DL
/-! ### the readings -/
def w_is_integer (z : Ad) : WS := (wRet (wAndV (wB dIsi (wCons (wVar 0) (wCons (wC (.ty "int")) wNil))) (wNotV (wB dIsi (wCons (wVar 0) (wCons (wC (.ty "bool")) wNil))))))
def w_is_between (z : Ad) : WS := (wRet (wAndV (wCallP (S_is_integer z) 1 (fun ds _ => ds) (wCons (wVar 0) wNil)) (wChain (dCmpI fun i j => decide (i ≤ j)) (dCmpI fun i j => decide (i ≤ j)) (wVar 1) (wVar 0) (wVar 2))))
def w_is_head (z : Ad) : WS := (wSeq (wIfS (wOr (wNot (wTest (wB dIsi (wCons (wVar 0) (wCons (wC (.ty "tuple")) wNil))))) (wOr (wTest (wOp (dEq fun b => b) (wB dLen (wCons (wVar 0) wNil)) (wC (.int 0)))) (wNot (wTest (wB dIsi (wCons (wOp dIx (wVar 0) (wC (.int 0))) (wCons (wC (.ty "str")) wNil))))))) (wRet (wC (.bl false))) wSkip)
  (wSeq (wAsg (wVar 0) (gStarD 2 1 (gsCons (gN 1) (gsCons (gN 2) gsNil))))
  (wSeq (wIfS (wTest (wOp (dIn false) (wVar 1) (wC (.tup [(.str "line"), (.str "flush"), (.str "drop"), (.str "both"), (.str "exit"), (.str "quit")])))) (wRet (wOp (dEq fun b => b) (wB dLen (wCons (wVar 2) wNil)) (wC (.int 0)))) wSkip)
  (wSeq (wIfS (wTest (wOp (dEq fun b => b) (wVar 1) (wC (.str "write")))) (wRet (wAndV (wOp (dEq fun b => b) (wB dLen (wCons (wVar 2) wNil)) (wC (.int 1))) (wCallP (S_is_between z) 3 (fun ds _ => ds) (wCons (wOp dIx (wVar 2) (wC (.int 0))) (wCons (wC (.int 1)) (wCons (wC (.int 2000)) wNil)))))) wSkip)
  (wSeq (wIfS (wTest (wOp (dEq fun b => b) (wVar 1) (wC (.str "fork")))) (wRet (wAndV (wOp (dEq fun b => b) (wB dLen (wCons (wVar 2) wNil)) (wC (.int 1))) (wB dIsi (wCons (wOp dIx (wVar 2) (wC (.int 0))) (wCons (wC (.ty "tuple")) wNil))))) wSkip)
  (wRet (wAndV (wOp (dEq fun b => b) (wVar 1) (wC (.str "repeat"))) (wAndV (wOp (dEq fun b => b) (wB dLen (wCons (wVar 2) wNil)) (wC (.int 2))) (wAndV (wCallP (S_is_between z) 3 (fun ds _ => ds) (wCons (wOp dIx (wVar 2) (wC (.int 0))) (wCons (wC (.int 0)) (wCons (wC (.int 300)) wNil)))) (wB dIsi (wCons (wOp dIx (wVar 2) (wC (.int 1))) (wCons (wC (.ty "tuple")) wNil))))))))))))
def w_inner_of (z : Ad) : WS := (wRet (wIf (wTest (wOp (dIn false) (wOp dIx (wVar 0) (wC (.int 0))) (wTup (wCons (wC (.str "fork")) (wCons (wC (.str "repeat")) wNil))))) (wOp dIx (wVar 0) (wNeg (wC (.int 1)))) (wTup wNil)))
def w_bytes_of (z : Ad) : WS := (wSeq (wIfS (wTest (wOp (dEq fun b => b) (wOp dIx (wVar 0) (wC (.int 0))) (wC (.str "write")))) (wRet (wOp dIx (wVar 0) (wC (.int 1)))) wSkip)
  (wRet (wIf (wTest (wOp (dEq fun b => b) (wOp dIx (wVar 0) (wC (.int 0))) (wC (.str "line")))) (wC (.int 1)) (wC (.int 0)))))
def w_wrong_in (z : Ad) (n : Nat) : WS := (wSeq (wFor (iNum (wCons (wVar 0) wNil)) (gT 2 (gsCons (gN 3) (gsCons (gN 4) gsNil))) (wSeq (wAsg (wTup (wStar (wVar 1) (wCons (wVar 3) wNil))) (gN 5))
  (wSeq (wAsg (wOp (dAdd false) (wVar 2) (wC (.int 1))) (gN 2))
  (wSeq (wIfS (wOr (wNot (wTest (wCallP (S_is_head z) 1 (fun ds _ => ds) (wCons (wVar 4) wNil)))) (wOr (wTest (wOp (dCmpI fun i j => decide (j < i)) (wB dLen (wCons (wVar 5) wNil)) (wC (.int 6)))) (wTest (wOp (dCmpI fun i j => decide (j < i)) (wVar 2) (wC (.int 300)))))) (wRet (wTup (wCons (wVar 5) (wCons (wVar 2) wNil)))) wSkip)
  (wSeq (wAsg (wCallP (S_wrong_in z n) 3 (fun ds _ => ds) (wCons (wCallP (S_inner_of z) 1 (fun ds _ => ds) (wCons (wVar 4) wNil)) (wCons (wVar 5) (wCons (wVar 2) wNil)))) (gT 2 (gsCons (gN 6) (gsCons (gN 2) gsNil))))
  (wIfS (wTest (wOp (dIsN fun b => !b) (wVar 6) (wC .non))) (wRet (wTup (wCons (wVar 6) (wCons (wVar 2) wNil)))) wSkip))))))
  (wRet (wTup (wCons (wC .non) (wCons (wVar 2) wNil)))))
def w_first_wrong (z : Ad) : WS := (wRet (wOp dIx (wCallP (S_wrong_in z 16) 3 (fun ds _ => ds) (wCons (wVar 0) (wCons (wTup wNil) (wCons (wC (.int 0)) wNil)))) (wC (.int 0))))
def w_size_in (z : Ad) (n : Nat) : WS := (wSeq (wAsg (wC (.int 0)) (gN 1))
  (wSeq (wFor (iTupD (wVar 0)) (gN 2) (wSeq (wAsg (wCallP (S_size_in z n) 1 (fun ds _ => ds) (wCons (wCallP (S_inner_of z) 1 (fun ds _ => ds) (wCons (wVar 2) wNil)) wNil)) (gN 3))
  (wAsg (wOp (dAdd false) (wVar 1) (wIf (wTest (wOp (dEq fun b => b) (wOp dIx (wVar 2) (wC (.int 0))) (wC (.str "repeat")))) (wOp (dMul false) (wOp dIx (wVar 2) (wC (.int 1))) (wVar 3)) (wOp (dAdd false) (wC (.int 1)) (wVar 3)))) (gN 1))))
  (wRet (wVar 1))))
def w_bytes_in (z : Ad) (n : Nat) : WS := (wSeq (wAsg (wC (.int 0)) (gN 1))
  (wSeq (wFor (iTupD (wVar 0)) (gN 2) (wAsg (wOp (dAdd false) (wVar 1) (wIf (wTest (wOp (dEq fun b => b) (wOp dIx (wVar 2) (wC (.int 0))) (wC (.str "repeat")))) (wOp (dMul false) (wOp dIx (wVar 2) (wC (.int 1))) (wCallP (S_bytes_in z n) 1 (fun ds _ => ds) (wCons (wOp dIx (wVar 2) (wC (.int 2))) wNil))) (wCallP (S_bytes_of z) 1 (fun ds _ => ds) (wCons (wVar 2) wNil)))) (gN 1)))
  (wRet (wVar 1))))
def w_reach_in (z : Ad) (n : Nat) : WS := (wSeq (wAsg (wC (.int 0)) (gN 1))
  (wSeq (wAsg (wC (.int 0)) (gN 2))
  (wSeq (wFor (iTupD (wVar 0)) (gN 3) (wIfS (wTest (wOp (dEq fun b => b) (wOp dIx (wVar 3) (wC (.int 0))) (wC (.str "fork")))) (wAsg (wB dMax2 (wCons (wVar 2) (wCons (wOp (dAdd false) (wVar 1) (wCallP (S_reach_in z n) 1 (fun ds _ => ds) (wCons (wOp dIx (wVar 3) (wC (.int 1))) wNil))) wNil))) (gN 2)) (wIfS (wAnd (wTest (wOp (dEq fun b => b) (wOp dIx (wVar 3) (wC (.int 0))) (wC (.str "repeat")))) (wTest (wOp (dCmpI fun i j => decide (j < i)) (wOp dIx (wVar 3) (wC (.int 1))) (wC (.int 0))))) (wSeq (wAsg (wCallP (S_bytes_in z 16) 1 (fun ds _ => ds) (wCons (wOp dIx (wVar 3) (wC (.int 2))) wNil)) (gN 4))
  (wSeq (wAsg (wB dMax2 (wCons (wVar 2) (wCons (wOp (dAdd false) (wOp (dAdd false) (wVar 1) (wOp (dMul false) (wOp dSub (wOp dIx (wVar 3) (wC (.int 1))) (wC (.int 1))) (wVar 4))) (wCallP (S_reach_in z n) 1 (fun ds _ => ds) (wCons (wOp dIx (wVar 3) (wC (.int 2))) wNil))) wNil))) (gN 2))
  (wAsg (wOp (dAdd false) (wVar 1) (wOp (dMul false) (wOp dIx (wVar 3) (wC (.int 1))) (wVar 4))) (gN 1)))) (wAsg (wOp (dAdd false) (wVar 1) (wCallP (S_bytes_of z) 1 (fun ds _ => ds) (wCons (wVar 3) wNil))) (gN 1)))))
  (wRet (wB dMax2 (wCons (wVar 2) (wCons (wVar 1) wNil)))))))
def w_Program___init__ (z : Ad) : WS := (wSeq (wAsg (wCallP (S_first_wrong z) 1 (fun ds _ => ds) (wCons (wVar 1) wNil)) (gN 2))
  (wSeq (wIfS (wTest (wOp (dIsN fun b => !b) (wVar 2) (wC .non))) wNever wSkip)
  (wSeq (wAsg (wCallP (S_size_in z 16) 1 (fun ds _ => ds) (wCons (wVar 1) wNil)) (gN 3))
  (wSeq (wIfS (wTest (wOp (dCmpI fun i j => decide (j < i)) (wVar 3) (wC (.int 2000)))) wNever wSkip)
  (wSeq (wAsg (wCallP (S_reach_in z 16) 1 (fun ds _ => ds) (wCons (wVar 1) wNil)) (gN 4))
  (wSeq (wIfS (wTest (wOp (dCmpI fun i j => decide (j < i)) (wVar 4) (wC (.int 2000)))) wNever wSkip)
  (wOrS (wSetF z.Program "held" (wVar 0) (wVar 1)) (wSetF z.LineProgram "held" (wVar 0) (wVar 1)))))))))
def w_Program_of (z : Ad) : WS := (wSeq (wIfS (wNot (wTest (wB dIsi (wCons (wVar 1) (wCons (wC (.ty "tuple")) wNil))))) wNever wSkip)
  (wRet (wOrE (wMakeVS z.Program (starS 1 (S_Program___init__ z)) 0 (wVar 1)) (wMakeVS z.LineProgram (starS 1 (S_Program___init__ z)) 0 (wVar 1)))))
def w_Program_size (z : Ad) : WS := (wRet (wCallP (S_size_in z 16) 1 (fun ds _ => ds) (wCons (wOrE (wFld z.Program "held" (wVar 0)) (wFld z.LineProgram "held" (wVar 0))) wNil)))
def w_Program_reach (z : Ad) : WS := (wRet (wCallP (S_reach_in z 16) 1 (fun ds _ => ds) (wCons (wOrE (wFld z.Program "held" (wVar 0)) (wFld z.LineProgram "held" (wVar 0))) wNil)))
end PK
namespace PK
open PySem PySem.Spec L2 C8 DL
theorem p_is_integer (z : Ad) : ∀ ds h Q X, S_is_integer z ds h Q X → w_is_integer z (endsD Q X) (startD 1 ds) h := pr_isInt
theorem len_is_integer (z : Ad) : ∀ ds h Q X, S_is_integer z ds h Q X → ds.length = 1 := len_isInt
theorem mo_is_integer (z : Ad) : MoF (S_is_integer z) := mo_isInt
theorem p_is_between (z : Ad) : ∀ ds h Q X, S_is_between z ds h Q X → w_is_between z (endsD Q X) (startD 3 ds) h := pr_isBtw
theorem len_is_between (z : Ad) : ∀ ds h Q X, S_is_between z ds h Q X → ds.length = 3 := len_isBtw
theorem mo_is_between (z : Ad) : MoF (S_is_between z) := mo_isBtw
theorem len_is_head (z : Ad) : ∀ ds h Q X, S_is_head z ds h Q X → ds.length = 1 := fun _ _ _ _ ⟨_, e, _⟩ => by rw [e]; rfl
theorem mo_is_head (z : Ad) : MoF (S_is_head z) := fun _ _ _ _ _ _ hq _ ⟨a, e, o, q⟩ => ⟨a, e, o, hq _ _ q⟩
theorem len_inner_of (z : Ad) : ∀ ds h Q X, S_inner_of z ds h Q X → ds.length = 1 := fun _ _ _ _ ⟨_, e, _⟩ => by rw [e]; rfl
theorem mo_inner_of (z : Ad) : MoF (S_inner_of z) := fun _ _ _ _ _ _ hq _ ⟨a, e, o, q⟩ => ⟨a, e, o, hq _ _ q⟩
theorem len_bytes_of (z : Ad) : ∀ ds h Q X, S_bytes_of z ds h Q X → ds.length = 1 := fun _ _ _ _ ⟨_, e, _⟩ => by rw [e]; rfl
theorem mo_bytes_of (z : Ad) : MoF (S_bytes_of z) := fun _ _ _ _ _ _ hq _ ⟨a, e, o, q⟩ => ⟨a, e, o, hq _ _ q⟩
/-! things -/
def isStrD : D → Bool
  | .str _ => true
  | _ => false
section
variable {x : D} {h : AH} {Q : KD}
theorem go_tup (hx : th x = true) (q : Q (.bl (isTup x)) h) : dIsi [x, .ty "tuple"] h Q := by
  cases x <;> first | exact ⟨_, _, _, _, rfl, rfl, rfl, q⟩ | (simp [th] at hx)
theorem go_str (hx : th x = true) (q : Q (.bl (isStrD x)) h) : dIsi [x, .ty "str"] h Q := by
  cases x <;> first | exact ⟨_, _, _, _, rfl, rfl, rfl, q⟩ | (simp [th] at hx)
theorem ty_th (hx : th x = true) : ∃ t, tyD h x = some t := by
  cases x <;> first | exact ⟨_, rfl⟩ | (simp [th] at hx)
end
theorem ths_mem : ∀ {xs : List D}, ths xs = true → ∀ x ∈ xs, th x = true
  | [], _, x, h => by cases h
  | y :: ys, hx, x, h => by
    rw [ths, Bool.and_eq_true] at hx
    rcases List.mem_cons.mp h with rfl | h
    · exact hx.1
    · exact ths_mem hx.2 x h
theorem th_tup {xs : List D} (h : th (.tup xs) = true) : xs.length ≤ 1000 ∧ ∀ x ∈ xs, th x = true := by
  rw [th, Bool.and_eq_true, decide_eq_true_iff] at h
  exact ⟨h.1, ths_mem h.2⟩
theorem deps_mem : ∀ {xs : List D} {x : D}, x ∈ xs → dep x + 1 ≤ deps xs
  | y :: ys, x, h => by
    rw [deps]
    rcases List.mem_cons.mp h with rfl | h
    · exact Nat.le_max_left ..
    · exact Nat.le_trans (deps_mem h) (Nat.le_max_right ..)
theorem dep_tup {xs : List D} {x : D} (h : x ∈ xs) : dep x + 1 ≤ dep (.tup xs) := by rw [dep]; exact deps_mem h
theorem dep_nil : dep (.tup []) = 0 := by rw [dep, deps]
theorem th_nil : th (.tup []) = true := by rw [th, ths]; rfl
/-! is_head -/
theorem star2 {y : D} {ps : List D} : (y :: ps).take 1 ++ [D.lst (((y :: ps).drop 1).take ((y :: ps).length + 1 - 2))] ++ ((y :: ps).drop 1).drop ((y :: ps).length + 1 - 2) = [y, .lst ps] := by
  have e : (y :: ps).length + 1 - 2 = ps.length := by simp
  rw [e]
  simp
theorem u_gstar {n i : Nat} {t : WGs} {d : D} {ρ : EnvD} {h : AH} {Q : EnvD → AH → Prop} {X : KX} : gStarD n i t d ρ h Q X = ∃ xs, d = .tup xs ∧ i < n ∧ n ≤ xs.length + 1 ∧ xs.length ≤ 16384 ∧ t (xs.take i ++ [.lst ((xs.drop i).take (xs.length + 1 - n))] ++ (xs.drop i).drop (xs.length + 1 - n)) ρ h Q X := rfl
theorem isi_in {w : Str} {h : AH} {Q : KD} (q : Q (.bl (bare w)) h) : dIn false (.str w) (.tup [.str "line", .str "flush", .str "drop", .str "both", .str "exit", .str "quit"]) h Q := ⟨_, rfl, rfl, rfl, q⟩
theorem p_is_head (z : Ad) : ∀ ds h Q X, S_is_head z ds h Q X → w_is_head z (endsD Q X) (startD 3 ds) h := by
  rintro ds h Q X ⟨x, rfl, hx, q⟩
  show w_is_head z (endsD Q X) [some x, none, none] h
  unfold w_is_head
  ((try dsimp only); rw [u_seq]; (try simp only [u_asg, u_gN, u_ret, u_retN, u_skip, u_expr, u_ifs, u_c, u_op, u_neg, u_test, u_and, u_or, u_not, u_if, u_nil, u_cons, u_tup, u_lst, u_callP, u_call, u_b, u_chain, u_andV, u_addI, u_subI, u_mulI, u_divI, u_modI, u_powI, u_cmpI, u_eqI, u_eqS, u_eqB, u_abs, u_intI, u_intB, u_newT, u_newF, u_isN, u_notN, wVar, List.set_cons_zero, List.set_cons_succ, List.getElem?_cons_zero, List.getElem?_cons_succ, List.length_cons, List.length_nil, u_lc, u_for, u_r1, u_r2, u_r3, u_num, u_notV, u_yes, u_w0, u_w1, u_dput, u_get2, u_dget, u_prop, u_fld, u_setF, u_make, u_makeS, u_met, u_calO, u_orT, u_tupIt, u_dc, u_maxDd, u_dnew, u_tupi, ix_p0, ix_p1, wSl, woNone, woSome]))
  refine go_tup hx ?_
  cases x with
  | tup xs =>
    obtain ⟨hl, hm⟩ := th_tup hx
    simp only [isTup, Bool.not_true, Bool.false_eq_true, if_false]
    simp only [u_lenT]
    cases xs with
    | nil => exact fin_of q
    | cons y ps =>
      have hy := hm y (List.mem_cons_self ..)
      have n0 : decide ((((y :: ps).length : Nat) : Int) = 0) = false := decide_eq_false (by rw [List.length_cons]; omega)
      rw [u_eqI, n0]
      simp only [Bool.false_eq_true, if_false]
      rw [u_ixTd at0]
      refine go_str hy ?_
      cases y with
      | str w =>
        simp only [isStrD, Bool.not_true, Bool.false_eq_true, if_false]
        ((try dsimp only); rw [u_seq]; (try simp only [u_asg, u_gN, u_ret, u_retN, u_skip, u_expr, u_ifs, u_c, u_op, u_neg, u_test, u_and, u_or, u_not, u_if, u_nil, u_cons, u_tup, u_lst, u_callP, u_call, u_b, u_chain, u_andV, u_addI, u_subI, u_mulI, u_divI, u_modI, u_powI, u_cmpI, u_eqI, u_eqS, u_eqB, u_abs, u_intI, u_intB, u_newT, u_newF, u_isN, u_notN, wVar, List.set_cons_zero, List.set_cons_succ, List.getElem?_cons_zero, List.getElem?_cons_succ, List.length_cons, List.length_nil, u_lc, u_for, u_r1, u_r2, u_r3, u_num, u_notV, u_yes, u_w0, u_w1, u_dput, u_get2, u_dget, u_prop, u_fld, u_setF, u_make, u_makeS, u_met, u_calO, u_orT, u_tupIt, u_dc, u_maxDd, u_dnew, u_tupi, ix_p0, ix_p1, wSl, woNone, woSome]))
        rw [u_gstar]
        refine ⟨_, rfl, by decide, by simp, Nat.le_trans hl (by decide), ?_⟩
        rw [star2]
        refine ⟨_, _, rfl, _, _, rfl, rfl, ?_⟩
        have q : Q (.bl (headL (.str w :: ps))) h := q
        unfold headL at q
        dsimp only at q
        ((try dsimp only); rw [u_seq]; (try simp only [u_asg, u_gN, u_ret, u_retN, u_skip, u_expr, u_ifs, u_c, u_op, u_neg, u_test, u_and, u_or, u_not, u_if, u_nil, u_cons, u_tup, u_lst, u_callP, u_call, u_b, u_chain, u_andV, u_addI, u_subI, u_mulI, u_divI, u_modI, u_powI, u_cmpI, u_eqI, u_eqS, u_eqB, u_abs, u_intI, u_intB, u_newT, u_newF, u_isN, u_notN, wVar, List.set_cons_zero, List.set_cons_succ, List.getElem?_cons_zero, List.getElem?_cons_succ, List.length_cons, List.length_nil, u_lc, u_for, u_r1, u_r2, u_r3, u_num, u_notV, u_yes, u_w0, u_w1, u_dput, u_get2, u_dget, u_prop, u_fld, u_setF, u_make, u_makeS, u_met, u_calO, u_orT, u_tupIt, u_dc, u_maxDd, u_dnew, u_tupi, ix_p0, ix_p1, wSl, woNone, woSome]))
        refine isi_in ?_
        dsimp only
        by_cases c1 : bare w = true
        · rw [if_pos c1] at q ⊢
          try simp only [u_asg, u_gN, u_ret, u_retN, u_skip, u_expr, u_ifs, u_c, u_op, u_neg, u_test, u_and, u_or, u_not, u_if, u_nil, u_cons, u_tup, u_lst, u_callP, u_call, u_b, u_chain, u_andV, u_addI, u_subI, u_mulI, u_divI, u_modI, u_powI, u_cmpI, u_eqI, u_eqS, u_eqB, u_abs, u_intI, u_intB, u_newT, u_newF, u_isN, u_notN, wVar, List.set_cons_zero, List.set_cons_succ, List.getElem?_cons_zero, List.getElem?_cons_succ, List.length_cons, List.length_nil, u_lc, u_for, u_r1, u_r2, u_r3, u_num, u_notV, u_yes, u_w0, u_w1, u_dput, u_get2, u_dget, u_prop, u_fld, u_setF, u_make, u_makeS, u_met, u_calO, u_orT, u_tupIt, u_dc, u_maxDd, u_dnew, u_tupi, ix_p0, ix_p1, wSl, woNone, woSome]
          refine len_of rfl ?_
          try simp only [u_asg, u_gN, u_ret, u_retN, u_skip, u_expr, u_ifs, u_c, u_op, u_neg, u_test, u_and, u_or, u_not, u_if, u_nil, u_cons, u_tup, u_lst, u_callP, u_call, u_b, u_chain, u_andV, u_addI, u_subI, u_mulI, u_divI, u_modI, u_powI, u_cmpI, u_eqI, u_eqS, u_eqB, u_abs, u_intI, u_intB, u_newT, u_newF, u_isN, u_notN, wVar, List.set_cons_zero, List.set_cons_succ, List.getElem?_cons_zero, List.getElem?_cons_succ, List.length_cons, List.length_nil, u_lc, u_for, u_r1, u_r2, u_r3, u_num, u_notV, u_yes, u_w0, u_w1, u_dput, u_get2, u_dget, u_prop, u_fld, u_setF, u_make, u_makeS, u_met, u_calO, u_orT, u_tupIt, u_dc, u_maxDd, u_dnew, u_tupi, ix_p0, ix_p1, wSl, woNone, woSome]
          have e : decide (((ps.length : Nat) : Int) = 0) = ps.isEmpty := by
            cases ps with
            | nil => rfl
            | cons a b => exact decide_eq_false (by rw [List.length_cons]; omega)
          rw [e]
          exact fin_of q
        · rw [if_neg c1] at q ⊢
          ((try dsimp only); rw [u_seq]; (try simp only [u_asg, u_gN, u_ret, u_retN, u_skip, u_expr, u_ifs, u_c, u_op, u_neg, u_test, u_and, u_or, u_not, u_if, u_nil, u_cons, u_tup, u_lst, u_callP, u_call, u_b, u_chain, u_andV, u_addI, u_subI, u_mulI, u_divI, u_modI, u_powI, u_cmpI, u_eqI, u_eqS, u_eqB, u_abs, u_intI, u_intB, u_newT, u_newF, u_isN, u_notN, wVar, List.set_cons_zero, List.set_cons_succ, List.getElem?_cons_zero, List.getElem?_cons_succ, List.length_cons, List.length_nil, u_lc, u_for, u_r1, u_r2, u_r3, u_num, u_notV, u_yes, u_w0, u_w1, u_dput, u_get2, u_dget, u_prop, u_fld, u_setF, u_make, u_makeS, u_met, u_calO, u_orT, u_tupIt, u_dc, u_maxDd, u_dnew, u_tupi, ix_p0, ix_p1, wSl, woNone, woSome]))
          by_cases c2 : w = "write"
          · rw [if_pos c2] at q
            rw [if_pos (decide_eq_true c2)]
            try simp only [u_asg, u_gN, u_ret, u_retN, u_skip, u_expr, u_ifs, u_c, u_op, u_neg, u_test, u_and, u_or, u_not, u_if, u_nil, u_cons, u_tup, u_lst, u_callP, u_call, u_b, u_chain, u_andV, u_addI, u_subI, u_mulI, u_divI, u_modI, u_powI, u_cmpI, u_eqI, u_eqS, u_eqB, u_abs, u_intI, u_intB, u_newT, u_newF, u_isN, u_notN, wVar, List.set_cons_zero, List.set_cons_succ, List.getElem?_cons_zero, List.getElem?_cons_succ, List.length_cons, List.length_nil, u_lc, u_for, u_r1, u_r2, u_r3, u_num, u_notV, u_yes, u_w0, u_w1, u_dput, u_get2, u_dget, u_prop, u_fld, u_setF, u_make, u_makeS, u_met, u_calO, u_orT, u_tupIt, u_dc, u_maxDd, u_dnew, u_tupi, ix_p0, ix_p1, wSl, woNone, woSome]
            refine len_of rfl ?_
            try simp only [u_asg, u_gN, u_ret, u_retN, u_skip, u_expr, u_ifs, u_c, u_op, u_neg, u_test, u_and, u_or, u_not, u_if, u_nil, u_cons, u_tup, u_lst, u_callP, u_call, u_b, u_chain, u_andV, u_addI, u_subI, u_mulI, u_divI, u_modI, u_powI, u_cmpI, u_eqI, u_eqS, u_eqB, u_abs, u_intI, u_intB, u_newT, u_newF, u_isN, u_notN, wVar, List.set_cons_zero, List.set_cons_succ, List.getElem?_cons_zero, List.getElem?_cons_succ, List.length_cons, List.length_nil, u_lc, u_for, u_r1, u_r2, u_r3, u_num, u_notV, u_yes, u_w0, u_w1, u_dput, u_get2, u_dget, u_prop, u_fld, u_setF, u_make, u_makeS, u_met, u_calO, u_orT, u_tupIt, u_dc, u_maxDd, u_dnew, u_tupi, ix_p0, ix_p1, wSl, woNone, woSome]
            match ps, hm, q with
            | [], _, q => exact fin_of q
            | [x], hm, q =>
              have hx1 := hm x (by simp)
              obtain ⟨t, ht⟩ := ty_th (h := h) hx1
              have d1 : decide ((([x] : List D).length : Int) = 1) = true := rfl
              rw [d1]
              simp only [if_true]
              rw [u_ixLd at0]
              exact ⟨trivial, x, t, 1, 2000, rfl, ht, fin_of q⟩
            | x :: y :: ps, _, q =>
              have d1 : decide (((x :: y :: ps).length : Int) = 1) = false := decide_eq_false (by simp only [List.length_cons]; omega)
              rw [d1]
              exact fin_of q
          · rw [if_neg c2] at q
            rw [if_neg (by rw [decide_eq_false c2]; decide)]
            ((try dsimp only); rw [u_seq]; (try simp only [u_asg, u_gN, u_ret, u_retN, u_skip, u_expr, u_ifs, u_c, u_op, u_neg, u_test, u_and, u_or, u_not, u_if, u_nil, u_cons, u_tup, u_lst, u_callP, u_call, u_b, u_chain, u_andV, u_addI, u_subI, u_mulI, u_divI, u_modI, u_powI, u_cmpI, u_eqI, u_eqS, u_eqB, u_abs, u_intI, u_intB, u_newT, u_newF, u_isN, u_notN, wVar, List.set_cons_zero, List.set_cons_succ, List.getElem?_cons_zero, List.getElem?_cons_succ, List.length_cons, List.length_nil, u_lc, u_for, u_r1, u_r2, u_r3, u_num, u_notV, u_yes, u_w0, u_w1, u_dput, u_get2, u_dget, u_prop, u_fld, u_setF, u_make, u_makeS, u_met, u_calO, u_orT, u_tupIt, u_dc, u_maxDd, u_dnew, u_tupi, ix_p0, ix_p1, wSl, woNone, woSome]))
            by_cases c3 : w = "fork"
            · rw [if_pos c3] at q
              rw [if_pos (decide_eq_true c3)]
              try simp only [u_asg, u_gN, u_ret, u_retN, u_skip, u_expr, u_ifs, u_c, u_op, u_neg, u_test, u_and, u_or, u_not, u_if, u_nil, u_cons, u_tup, u_lst, u_callP, u_call, u_b, u_chain, u_andV, u_addI, u_subI, u_mulI, u_divI, u_modI, u_powI, u_cmpI, u_eqI, u_eqS, u_eqB, u_abs, u_intI, u_intB, u_newT, u_newF, u_isN, u_notN, wVar, List.set_cons_zero, List.set_cons_succ, List.getElem?_cons_zero, List.getElem?_cons_succ, List.length_cons, List.length_nil, u_lc, u_for, u_r1, u_r2, u_r3, u_num, u_notV, u_yes, u_w0, u_w1, u_dput, u_get2, u_dget, u_prop, u_fld, u_setF, u_make, u_makeS, u_met, u_calO, u_orT, u_tupIt, u_dc, u_maxDd, u_dnew, u_tupi, ix_p0, ix_p1, wSl, woNone, woSome]
              refine len_of rfl ?_
              try simp only [u_asg, u_gN, u_ret, u_retN, u_skip, u_expr, u_ifs, u_c, u_op, u_neg, u_test, u_and, u_or, u_not, u_if, u_nil, u_cons, u_tup, u_lst, u_callP, u_call, u_b, u_chain, u_andV, u_addI, u_subI, u_mulI, u_divI, u_modI, u_powI, u_cmpI, u_eqI, u_eqS, u_eqB, u_abs, u_intI, u_intB, u_newT, u_newF, u_isN, u_notN, wVar, List.set_cons_zero, List.set_cons_succ, List.getElem?_cons_zero, List.getElem?_cons_succ, List.length_cons, List.length_nil, u_lc, u_for, u_r1, u_r2, u_r3, u_num, u_notV, u_yes, u_w0, u_w1, u_dput, u_get2, u_dget, u_prop, u_fld, u_setF, u_make, u_makeS, u_met, u_calO, u_orT, u_tupIt, u_dc, u_maxDd, u_dnew, u_tupi, ix_p0, ix_p1, wSl, woNone, woSome]
              match ps, hm, q with
              | [], _, q => exact fin_of q
              | [x], hm, q =>
                have hx1 := hm x (by simp)
                have d1 : decide ((([x] : List D).length : Int) = 1) = true := rfl
                rw [d1]
                simp only [if_true]
                rw [u_ixLd at0]
                exact go_tup hx1 (fin_of q)
              | x :: y :: ps, _, q =>
                have d1 : decide (((x :: y :: ps).length : Int) = 1) = false := decide_eq_false (by simp only [List.length_cons]; omega)
                rw [d1]
                exact fin_of q
            · rw [if_neg c3] at q
              rw [if_neg (by rw [decide_eq_false c3]; decide)]
              try simp only [u_asg, u_gN, u_ret, u_retN, u_skip, u_expr, u_ifs, u_c, u_op, u_neg, u_test, u_and, u_or, u_not, u_if, u_nil, u_cons, u_tup, u_lst, u_callP, u_call, u_b, u_chain, u_andV, u_addI, u_subI, u_mulI, u_divI, u_modI, u_powI, u_cmpI, u_eqI, u_eqS, u_eqB, u_abs, u_intI, u_intB, u_newT, u_newF, u_isN, u_notN, wVar, List.set_cons_zero, List.set_cons_succ, List.getElem?_cons_zero, List.getElem?_cons_succ, List.length_cons, List.length_nil, u_lc, u_for, u_r1, u_r2, u_r3, u_num, u_notV, u_yes, u_w0, u_w1, u_dput, u_get2, u_dget, u_prop, u_fld, u_setF, u_make, u_makeS, u_met, u_calO, u_orT, u_tupIt, u_dc, u_maxDd, u_dnew, u_tupi, ix_p0, ix_p1, wSl, woNone, woSome]
              by_cases c4 : w = "repeat"
              · rw [if_pos c4] at q
                rw [decide_eq_true c4]
                simp only [if_true]
                refine len_of rfl ?_
                try simp only [u_asg, u_gN, u_ret, u_retN, u_skip, u_expr, u_ifs, u_c, u_op, u_neg, u_test, u_and, u_or, u_not, u_if, u_nil, u_cons, u_tup, u_lst, u_callP, u_call, u_b, u_chain, u_andV, u_addI, u_subI, u_mulI, u_divI, u_modI, u_powI, u_cmpI, u_eqI, u_eqS, u_eqB, u_abs, u_intI, u_intB, u_newT, u_newF, u_isN, u_notN, wVar, List.set_cons_zero, List.set_cons_succ, List.getElem?_cons_zero, List.getElem?_cons_succ, List.length_cons, List.length_nil, u_lc, u_for, u_r1, u_r2, u_r3, u_num, u_notV, u_yes, u_w0, u_w1, u_dput, u_get2, u_dget, u_prop, u_fld, u_setF, u_make, u_makeS, u_met, u_calO, u_orT, u_tupIt, u_dc, u_maxDd, u_dnew, u_tupi, ix_p0, ix_p1, wSl, woNone, woSome]
                match ps, hm, q with
                | [], _, q => exact fin_of q
                | [x], _, q => exact fin_of q
                | [x, y], hm, q =>
                  have hx1 := hm x (by simp)
                  have hy1 := hm y (by simp)
                  obtain ⟨t, ht⟩ := ty_th (h := h) hx1
                  have d1 : decide ((([x, y] : List D).length : Int) = 2) = true := rfl
                  rw [d1]
                  simp only [if_true]
                  rw [u_ixLd at0]
                  refine ⟨trivial, x, t, 0, 300, rfl, ht, ?_⟩
                  dsimp only at q
                  cases cb : btw x 0 300 with
                  | false =>
                    rw [cb] at q
                    exact fin_of q
                  | true =>
                    rw [cb] at q
                    simp only [if_true]
                    rw [u_ixLd at1]
                    exact go_tup hy1 (fin_of q)
                | x :: y :: z :: ps, _, q =>
                  have d1 : decide (((x :: y :: z :: ps).length : Int) = 2) = false := decide_eq_false (by simp only [List.length_cons]; omega)
                  rw [d1]
                  exact fin_of q
              · rw [if_neg c4] at q
                rw [decide_eq_false c4]
                exact fin_of q
      | _ => exact fin_of q
  | _ => exact fin_of q
theorem big_size : 100000 ≤ sizeLine := by decide
/-- a head is a word and parts -/
theorem head_str {xs : List D} (h : headL xs = true) : ∃ w ps, xs = .str w :: ps := by
  cases xs with
  | nil => cases h
  | cons y ps =>
    cases y with
    | str w => exact ⟨w, ps, rfl⟩
    | _ => cases h
theorem bare_fork : bare "fork" = false := by decide +kernel
theorem bare_repeat : bare "repeat" = false := by decide +kernel
theorem bare_write : bare "write" = false := by decide +kernel
theorem head_fork {ps : List D} (h : headL (.str "fork" :: ps) = true) : ∃ x, ps = [x] ∧ isTup x = true := by
  unfold headL at h
  dsimp only at h
  rw [bare_fork, if_neg (by decide), if_neg (by decide), if_pos rfl] at h
  match ps, h with
  | [x], h => exact ⟨x, rfl, h⟩
theorem head_repeat {ps : List D} (h : headL (.str "repeat" :: ps) = true) : ∃ x y, ps = [x, y] ∧ btw x 0 300 = true ∧ isTup y = true := by
  unfold headL at h
  dsimp only at h
  rw [bare_repeat, if_neg (by decide), if_neg (by decide), if_neg (by decide), if_pos rfl] at h
  match ps, h with
  | [x, y], h => exact ⟨x, y, rfl, by simpa using h⟩
theorem in_two {w : Str} : inD (.str w) [.str "fork", .str "repeat"] = decide (w = "fork" ∨ w = "repeat") := by
  by_cases c1 : w = "fork"
  · subst c1; decide +kernel
  · by_cases c2 : w = "repeat"
    · subst c2; decide +kernel
    · rw [decide_eq_false (by simp [c1, c2])]
      simp [inD, eqFD, Ne.symm c1, Ne.symm c2]
theorem p_inner_of (z : Ad) : ∀ ds h Q X, S_inner_of z ds h Q X → w_inner_of z (endsD Q X) (startD 1 ds) h := by
  rintro ds h Q X ⟨xs, rfl, hh, q⟩
  show w_inner_of z (endsD Q X) [some (.tup xs)] h
  obtain ⟨w, ps, rfl⟩ := head_str hh
  unfold innD at q
  dsimp only at q
  simp only [w_inner_of, u_asg, u_gN, u_ret, u_retN, u_skip, u_expr, u_ifs, u_c, u_op, u_neg, u_test, u_and, u_or, u_not, u_if, u_nil, u_cons, u_tup, u_lst, u_callP, u_call, u_b, u_chain, u_andV, u_addI, u_subI, u_mulI, u_divI, u_modI, u_powI, u_cmpI, u_eqI, u_eqS, u_eqB, u_abs, u_intI, u_intB, u_newT, u_newF, u_isN, u_notN, wVar, List.set_cons_zero, List.set_cons_succ, List.getElem?_cons_zero, List.getElem?_cons_succ, List.length_cons, List.length_nil, u_lc, u_for, u_r1, u_r2, u_r3, u_num, u_notV, u_yes, u_w0, u_w1, u_dput, u_get2, u_dget, u_prop, u_fld, u_setF, u_make, u_makeS, u_met, u_calO, u_orT, u_tupIt, u_dc, u_maxDd, u_dnew, u_tupi, ix_p0, ix_p1, wSl, woNone, woSome]
  rw [u_ixTd at0]
  refine ⟨by decide, _, rfl, rfl, rfl, ?_⟩
  simp only [Bool.false_eq_true, if_false]
  rw [in_two]
  by_cases c : w = "fork" ∨ w = "repeat"
  · rw [if_pos c] at q
    rw [if_pos (decide_eq_true c)]
    rcases c with rfl | rfl
    · obtain ⟨x, rfl, _⟩ := head_fork hh
      exact ⟨_, _, rfl, rfl, fin_of q⟩
    · obtain ⟨x, y, rfl, _⟩ := head_repeat hh
      exact ⟨_, _, rfl, rfl, fin_of q⟩
  · rw [if_neg c] at q
    rw [if_neg (by rw [decide_eq_false c]; decide)]
    exact ⟨Nat.zero_le _, fin_of q⟩
theorem tup_of {x : D} (h : isTup x = true) : ∃ xs, x = .tup xs := by cases x <;> first | exact ⟨_, rfl⟩ | cases h
theorem head_write {ps : List D} (h : headL (.str "write" :: ps) = true) : ∃ x, ps = [x] ∧ btw x 1 2000 = true := by
  unfold headL at h
  dsimp only at h
  rw [bare_write, if_neg (by decide), if_pos rfl] at h
  match ps, h with
  | [x], h => exact ⟨x, rfl, h⟩
theorem p_bytes_of (z : Ad) : ∀ ds h Q X, S_bytes_of z ds h Q X → w_bytes_of z (endsD Q X) (startD 1 ds) h := by
  rintro ds h Q X ⟨xs, rfl, hh, q⟩
  show w_bytes_of z (endsD Q X) [some (.tup xs)] h
  obtain ⟨w, ps, rfl⟩ := head_str hh
  unfold bytD at q
  dsimp only at q
  unfold w_bytes_of
  ((try dsimp only); rw [u_seq]; (try simp only [u_asg, u_gN, u_ret, u_retN, u_skip, u_expr, u_ifs, u_c, u_op, u_neg, u_test, u_and, u_or, u_not, u_if, u_nil, u_cons, u_tup, u_lst, u_callP, u_call, u_b, u_chain, u_andV, u_addI, u_subI, u_mulI, u_divI, u_modI, u_powI, u_cmpI, u_eqI, u_eqS, u_eqB, u_abs, u_intI, u_intB, u_newT, u_newF, u_isN, u_notN, wVar, List.set_cons_zero, List.set_cons_succ, List.getElem?_cons_zero, List.getElem?_cons_succ, List.length_cons, List.length_nil, u_lc, u_for, u_r1, u_r2, u_r3, u_num, u_notV, u_yes, u_w0, u_w1, u_dput, u_get2, u_dget, u_prop, u_fld, u_setF, u_make, u_makeS, u_met, u_calO, u_orT, u_tupIt, u_dc, u_maxDd, u_dnew, u_tupi, ix_p0, ix_p1, wSl, woNone, woSome]))
  rw [u_ixTd at0]
  try simp only [u_asg, u_gN, u_ret, u_retN, u_skip, u_expr, u_ifs, u_c, u_op, u_neg, u_test, u_and, u_or, u_not, u_if, u_nil, u_cons, u_tup, u_lst, u_callP, u_call, u_b, u_chain, u_andV, u_addI, u_subI, u_mulI, u_divI, u_modI, u_powI, u_cmpI, u_eqI, u_eqS, u_eqB, u_abs, u_intI, u_intB, u_newT, u_newF, u_isN, u_notN, wVar, List.set_cons_zero, List.set_cons_succ, List.getElem?_cons_zero, List.getElem?_cons_succ, List.length_cons, List.length_nil, u_lc, u_for, u_r1, u_r2, u_r3, u_num, u_notV, u_yes, u_w0, u_w1, u_dput, u_get2, u_dget, u_prop, u_fld, u_setF, u_make, u_makeS, u_met, u_calO, u_orT, u_tupIt, u_dc, u_maxDd, u_dnew, u_tupi, ix_p0, ix_p1, wSl, woNone, woSome]
  by_cases c : w = "write"
  · subst c
    obtain ⟨x, rfl, _⟩ := head_write hh
    rw [if_pos rfl] at q
    rw [if_pos (decide_eq_true rfl), u_ixTd at1]
    exact fin_of q
  · rw [if_neg c] at q
    rw [if_neg (by rw [decide_eq_false c]; decide), u_ixTd at0]
    try simp only [u_asg, u_gN, u_ret, u_retN, u_skip, u_expr, u_ifs, u_c, u_op, u_neg, u_test, u_and, u_or, u_not, u_if, u_nil, u_cons, u_tup, u_lst, u_callP, u_call, u_b, u_chain, u_andV, u_addI, u_subI, u_mulI, u_divI, u_modI, u_powI, u_cmpI, u_eqI, u_eqS, u_eqB, u_abs, u_intI, u_intB, u_newT, u_newF, u_isN, u_notN, wVar, List.set_cons_zero, List.set_cons_succ, List.getElem?_cons_zero, List.getElem?_cons_succ, List.length_cons, List.length_nil, u_lc, u_for, u_r1, u_r2, u_r3, u_num, u_notV, u_yes, u_w0, u_w1, u_dput, u_get2, u_dget, u_prop, u_fld, u_setF, u_make, u_makeS, u_met, u_calO, u_orT, u_tupIt, u_dc, u_maxDd, u_dnew, u_tupi, ix_p0, ix_p1, wSl, woNone, woSome]
    by_cases c2 : w = "line"
    · rw [if_pos c2] at q
      rw [if_pos (decide_eq_true c2)]
      exact fin_of q
    · rw [if_neg c2] at q
      rw [if_neg (by rw [decide_eq_false c2]; decide)]
      exact fin_of q
end PK
/-! repr of things with {} within -/
namespace PK
open PySem PySem.Spec L2 C8 DL
/-! how long the text of a thing may be -/
/-- what repr of a thing asks -/
structure Rq (x : D) (k n : Nat) : Prop where
  da : dq x = true
  sh : (pq x).showable = true
  de : (pq x).depth ≤ k
  le : (pq x).shown.length ≤ n
/-! things may be shown -/
theorem Rq.up {x : D} {k n l m : Nat} (r : Rq x k n) (h1 : k ≤ l) (h2 : n ≤ m) : Rq x l m := ⟨r.da, r.sh, Nat.le_trans r.de h1, Nat.le_trans r.le h2⟩
end PK
/-! exceptions as values: isinstance, fields; counts and places in lists of bools -/
namespace DL
open PySem PySem.Spec L2 C8 PyProof.Rows
/-- what a kept exception's class must say -/
structure XVal (K : PySem.W.Frag) (C : Addr) : Prop where
  ga : PySem.W.findIn K (.ref C) "__getattribute__" = some (some (.builtin "BaseException.__getattribute__"))
  gg : PySem.W.findIn K (.ref C) "__getattr__" = some none
  sb : PySem.W.subIn K (.ref C) (.type "BaseException") = some true
  hd : PySem.W.hasDictIn K C = true
  cl : PySem.W.findIn K (.ref C) "__class__" = some (some (.builtin "object.__class__"))
  nn : PySem.W.specialIn K (.builtin "object.__class__") "__get__" = some (some (.builtin "getset_descriptor.__get__"))
  tk : PySem.W.takesIn K (.builtin "object.__class__") = some true
  mo : PySem.W.mroIn K C (.type "object") = some true
theorem XVal.is {K : PySem.W.Frag} {C : Addr} (T : XVal K C) : (PySem.W.clsIn K C).isSome = true := by
  obtain ⟨cd, hc, _⟩ := PySem.W.any_some T.hd
  rw [hc]; rfl
theorem XVal.kit {K : PySem.W.Frag} {C x : Addr} {ox : Obj} {od : Option Obj} (T : XVal K C) : PySem.W.KitX K (.ref x) (.ref C) (fun h => PySem.W.InstAt h x ox C od) := PySem.W.kitx_exc T.is T.ga T.gg T.sb T.cl T.nn T.tk T.mo
/-- the kept exception at a, with its fields -/
def KeptX (H : Hp) (a C : Addr) (fs : List (Str × V)) : Prop := (H a = some (exV a C none) ∧ fs = []) ∨ ∃ dd, H a = some (exV a C (some dd)) ∧ H dd = some (.xd fs)
theorem exv_at {P : Program} {w : World} {H : Hp} {h : Heap} {a C : Addr} {d : Option Addr} (hok : HOk P w H h) (e : H a = some (exV a C d)) : ∃ (oe : Obj) (vs : Array Value), h.get? a = some oe ∧ Zc (.ref C) d oe ∧ oe.data = .fields vs := by
  have x : ObjOk P w H h a (.ext fun h => ∃ (oe : Obj) (vs : Array Value), h.get? a = some oe ∧ Zc (.ref C) d oe ∧ oe.data = .fields vs) := hok a _ e
  exact x.1
theorem kept_inst {X : Cx} {pins : List (Addr × Obj)} {σ : L2.St} {H : Hp} {s : Shared} {a C : Addr} {fs : List (Str × V)} (I : Inv X pins σ H s) (k : KeptX H a C fs) : ∃ oe od, PySem.W.InstAt s.heap a oe C od ∧
    ∀ f v, fs.lookup f = some v → ∃ o u, od = some o ∧ RelV v u ∧ PySem.W.lookIn f o = some (some u) := by
  rcases k with ⟨e, rfl⟩ | ⟨dd, e, ed⟩
  · obtain ⟨oe, vs, g, hz, hd⟩ := exv_at I.hok e
    exact ⟨oe, none, ⟨g, hz.1, by unfold PySem.W.notCls; rw [hd] <;> rfl, by rw [hz.2]; trivial⟩, fun f v h => by cases h⟩
  · obtain ⟨oe, vs, g, hz, hd⟩ := exv_at I.hok e
    have hx : ObjOk X.prog X.w H s.heap dd (.xd fs) := I.hok dd _ ed
    obtain ⟨mA, hns, hr⟩ := hx
    obtain ⟨od, ho, hl⟩ := lookIn_ns hns
    refine ⟨oe, some od, ⟨g, hz.1, by unfold PySem.W.notCls; rw [hd] <;> rfl, by rw [hz.2]; exact ho⟩, fun f v h => ?_⟩
    obtain ⟨u, hu, ru⟩ := RelO.some_of (v := v) (o := mA f) (by rw [← h]; exact hr f)
    exact ⟨od, u, rfl, ru, by rw [hl, hu]⟩
theorem rep_kept {K : PySem.W.Frag} {F : Hp} {h : AH} {H : Hp} {C : Addr} {fs : List (Str × D)} {v : V} (S : Sim K F h H) (r : Rep K F (.xob C fs) v) : ∃ a vs, v = .ref a ∧ KeptX H a C vs ∧ RepF K F fs vs := by
  cases r with
  | xob0 e => exact ⟨_, [], rfl, .inl ⟨S.fz _ _ e, rfl⟩, .nil⟩
  | xob e ed rf => exact ⟨_, _, rfl, .inr ⟨_, S.fz _ _ e, S.fz _ _ ed⟩, rf⟩
/-! ### isinstance -/
def rIsX (K : PySem.W.Frag) : List V → Hp → VK → Prop := fun xs H Q => ∃ (a C : Addr) (fs : List (Str × V)) (c : V) (cv : Value) (b : Bool), xs = [.ref a, c] ∧ KeptX H a C fs ∧ XVal K C ∧ ClsV c cv ∧ PySem.W.kitOne K (.ref C) cv = some b ∧ Q (.bl b) H
def rIsXT (K : PySem.W.Frag) : List V → Hp → VK → Prop := fun xs H Q => ∃ (a C tp : Addr) (fs : List (Str × V)) (cs : List V) (ws : List Value) (b : Bool), xs = [.ref a, .ref tp] ∧ KeptX H a C fs ∧ XVal K C ∧ SqT K H tp cs ∧ Paired ClsV cs ws ∧ PySem.W.kitAny K (.ref C) ws = some b ∧ Q (.bl b) H
theorem call_isX {X : Cx} : CallR X (.builtin "isinstance") (rIsX X.K) := by
  intro pins s σ H xs us Q I r h
  obtain ⟨a, C, fs, c, cv, b, rfl, k, T, kc, e, q⟩ := h
  obtain ⟨u1, u2, rfl, r1, r2⟩ := vals2 r
  obtain rfl : u1 = Value.ref a := r1
  have e2 := kc.eq r2
  subst e2
  obtain ⟨oe, od, J, _⟩ := kept_inst I k
  exact PySem.W.kia_one T.kit I.kIn J e (fun z => nomatch z) fun tk => ⟨.bl b, H, I.tok tk, rfl, q⟩
theorem call_isXT {X : Cx} : CallR X (.builtin "isinstance") (rIsXT X.K) := by
  intro pins s σ H xs us Q I r h
  obtain ⟨a, C, tp, fs, cs, ws, b, rfl, k, T, hq, kc, e, q⟩ := h
  obtain ⟨u1, u2, rfl, r1, r2⟩ := vals2 r
  obtain rfl : u1 = Value.ref a := r1
  obtain rfl : u2 = Value.ref tp := r2
  obtain ⟨oe, od, J, _⟩ := kept_inst I k
  obtain ⟨its, rv, ⟨o, h1, h2, n, h3⟩, _⟩ := I.tuple hq
  have e3 := ClsV.all kc rv
  subst e3
  obtain ⟨oc, od2, dt, sl⟩ := o
  simp only at h2 h3
  subst h2 h3
  exact PySem.W.kia_tup T.kit I.kIn J h1 e (fun z => nomatch z) fun tk => ⟨.bl b, H, I.tok tk, rfl, q⟩
/-- a class as data -/
inductive ClsD : D → V → Value → Prop where
  | ty (n : String) : ClsD (.ty n) (.ty n) (.type n)
  | own (C : Addr) : ClsD (.ref C) (.ref C) (.ref C)
theorem ClsD.v {d : D} {v : V} {u : Value} (k : ClsD d v u) : ClsV v u := by
  cases k with
  | ty n => exact .ty n
  | own C => exact .own C
theorem ClsD.rep {K : PySem.W.Frag} {F : Hp} {d : D} {v w : V} {u : Value} (k : ClsD d v u) (r : Rep K F d w) : w = v := by
  cases k with
  | ty n => cases r; rfl
  | own C => cases r; rfl
/-- whose instances are which -/
abbrev XTab := List (Addr × D × Bool)
def XTabOk (K : PySem.W.Frag) (M : XTab) : Prop := ∀ p ∈ M, XVal K p.1 ∧ ∃ v u, ClsD p.2.1 v u ∧ PySem.W.kitOne K (.ref p.1) u = some p.2.2
def dIsX (M : XTab) (ds : List D) (h : AH) (Q : KD) : Prop := ∃ C fs c b, ds = [.xob C fs, c] ∧ (C, c, b) ∈ M ∧ Q (.bl b) h
inductive IsAny (M : XTab) (C : Addr) : List D → Bool → Prop where
  | nil : IsAny M C [] false
  | cons {c : D} {b r : Bool} {cs : List D} (h : (C, c, b) ∈ M) (t : IsAny M C cs r) : IsAny M C (c :: cs) (b || r)
def dIsXT (M : XTab) (ds : List D) (h : AH) (Q : KD) : Prop := ∃ C fs cs b, ds = [.xob C fs, .tup cs] ∧ cs ≠ [] ∧ IsAny M C cs b ∧ Q (.bl b) h
theorem isAny_ok {K : PySem.W.Frag} {M : XTab} (ok : XTabOk K M) {C : Addr} {F : Hp} : ∀ {cs : List D} {b : Bool} {vs : List V}, IsAny M C cs b → Reps K F cs vs → ∃ ws, Paired ClsV vs ws ∧ PySem.W.kitAny K (.ref C) ws = some b
  | _, _, _, .nil, .nil => ⟨[], .nil, kitAny_nil⟩
  | _, _, _, .cons h t, .cons r rs => by
    obtain ⟨ws, p, e⟩ := isAny_ok ok t rs
    obtain ⟨_, v, u, k, ek⟩ := ok _ h
    have ev := k.rep r
    subst ev
    refine ⟨u :: ws, .cons k.v p, kitAny_cons ek (fun hb => ?_) fun hb => ?_⟩
    · have hb2 : _ = false := hb
      dsimp only at hb2
      rw [e, hb2, Bool.false_or]
    · have hb2 : _ = true := hb
      dsimp only at hb2
      rw [hb2, Bool.true_or]
section
variable {X : Cx}
theorem dIsX_ok {M : XTab} (ok : XTabOk X.K M) : CaD X (.builtin "isinstance") (dIsX M) where
  ex := ⟨_, call_isX, fun {F h H ds vs Q} S r q => by
    obtain ⟨C, fs, c, b, rfl, hm, q⟩ := q
    obtain ⟨v, w, rfl, r1, r2⟩ := r.two
    obtain ⟨a, us, rfl, k, _⟩ := rep_kept S r1
    obtain ⟨T, v2, u, kc, e⟩ := ok _ hm
    have ev := kc.rep r2
    subst ev
    exact ⟨a, C, us, _, u, b, rfl, k, T, kc.v, e, q.at S (.bl _)⟩⟩
  mo := fun {ds h Q Q'} hq ⟨C, fs, c, b, e, hm, q⟩ => ⟨C, fs, c, b, e, hm, hq _ _ q⟩
theorem dIsXT_ok {M : XTab} (ok : XTabOk X.K M) : CaD X (.builtin "isinstance") (dIsXT M) where
  ex := ⟨_, call_isXT, fun {F h H ds vs Q} S r q => by
    obtain ⟨C, fs, cs, b, rfl, ne, hm, q⟩ := q
    obtain ⟨v, w, rfl, r1, r2⟩ := r.two
    obtain ⟨a, us, rfl, k, _⟩ := rep_kept S r1
    cases r2 with
    | tup hs rs =>
      obtain ⟨ws, p, e⟩ := isAny_ok ok hm rs
      have T : XVal X.K C := by
        cases hm with
        | nil => exact absurd rfl ne
        | cons h _ => exact (ok _ h).1
      exact ⟨a, C, _, us, _, ws, b, rfl, k, T, sqt_of S.fz hs, p, e, q.at S (.bl _)⟩⟩
  mo := fun {ds h Q Q'} hq ⟨C, fs, cs, b, e, ne, hm, q⟩ => ⟨C, fs, cs, b, e, ne, hm, hq _ _ q⟩
/-! ### fields -/
def wXFld (Cs : List Addr) (f : Str) (we : WE) : WE := fun ρ h Q X => we ρ h (fun x h1 => ∃ C fs d, x = .xob C fs ∧ C ∈ Cs ∧ fs.lookup f = some d ∧ Q d h1) X
theorem ae_xfld {E : XK} {Cs : List Addr} {f : Str} {e : Expr} {we : WE} {pos : Pos} (ok : ∀ C ∈ Cs, XVal X.K C ∧ PySem.W.findIn X.K (.ref C) f = some none) (he : AE X E e we) (hb : attributeBase e f X.env (eval e X.env) = eval e X.env := by rfl) : AE X E (.Attribute e f pos) (wXFld Cs f we) := by
  refine ⟨⟨fun pins s σ H Q I hq => ?_⟩, fun ρ h Q Q' X X' hq hx q => he.mo _ _ _ _ _ _ (fun x h1 ⟨C, fs, d, e1, e2, e3, z⟩ => ⟨C, fs, d, e1, e2, e3, hq _ _ z⟩) hx q⟩
  obtain ⟨F, ρ, h, S, R, q⟩ := hq
  refine attr_of hb (thn (he.run.run pins s σ H (fun v H1 => ∃ (a C : Addr) (vs : List (Str × V)) (u : V), v = .ref a ∧ C ∈ Cs ∧ KeptX H1 a C vs ∧ vs.lookup f = some u ∧ Q u H1) I ⟨F, ρ, h, S, R, he.mo _ _ _ _ _ _ (fun x h1 z => ?_) (fun _ _ z => z) q⟩) fun u s1 hh => ?_)
  · obtain ⟨C, fs, d, rfl, hC, hl, z⟩ := z
    intro F1 H1 v e1 S1 r
    obtain ⟨a, us, rfl, k, rf⟩ := rep_kept S1 r
    obtain ⟨w, hw, rw'⟩ := rf.look hl
    exact ⟨a, C, us, w, rfl, hC, k, hw, z F1 H1 w e1 S1 rw'⟩
  · obtain ⟨v, H1, I1, r1, a, C, vs, w, rfl, hC, k, hl, z⟩ := hh
    obtain rfl : u = Value.ref a := r1
    obtain ⟨T, hno⟩ := ok C hC
    obtain ⟨oe, od, J, hf⟩ := kept_inst I1 k
    obtain ⟨o, u2, rfl, ru, hlk⟩ := hf f w hl
    exact HandSPX.exc_get I1.kIn J T.ga T.gg T.sb (PySem.W.findObj_own T.hd hno rfl hlk) (handed_of ru) ⟨w, H1, I1.tok _, ru, z⟩
/-! ### lists of bools -/
def rCntF (K : PySem.W.Frag) : V → List V → Hp → VK → Prop := fun x xs H Q => ∃ (a : Addr) (ys : List V) (y : V), x = V.ref a ∧ xs = [y] ∧ SqL K H a ys ∧ flatV y = true ∧ ys.all flatV = true ∧ Q (.int ((ys.countP fun z => eqV z y : Nat) : Int)) H
theorem count_flat {y : V} : ∀ {ys : List V} {us : List Value}, Vals ys us → ys.all flatV = true → us.countP (eqU y) = ys.countP fun z => eqV z y
  | _, _, .nil, _ => rfl
  | _, _, .cons r h, f => by
    rw [List.all_cons, Bool.and_eq_true] at f
    rw [List.countP_cons, List.countP_cons, count_flat h f.2, eqU_of r f.1]
theorem mt_countF : MtR X "list.count" (rCntF X.K) := by
  intro pins s σ H x xs v us Q I rx rxs h
  obtain ⟨p, ys, y, rfl, rfl, hs, fy, fys, q⟩ := h
  cases rx
  obtain ⟨u, rfl, ru⟩ := rxs.one
  obtain ⟨its, rv, ⟨⟨cls, dd, data, sl⟩, n, ho, hc, hdn, hd⟩, hlen⟩ := I.list hs
  simp only at hc hd
  subst hc hd
  refine call_meets PySem.F.slot_list_count ⟨_, ho, rfl⟩ PySem.F.entry_list_count (PySem.F.args_list_count_2 _ _) (SeqAt.list_countAt p its.toArray n dd sl u (eqU y)) ⟨ho, fun z hz => mem_eqAt ru fy rv fys z (by simpa using hz), ?_⟩
  refine ⟨.int (ys.countP fun z => eqV z y : Nat), H, I.tok _, ⟨s.toks, ?_⟩, q⟩
  rw [← count_flat rv fys]
end
def dCountB (x : D) (ys : List D) (h : AH) (Q : KD) : Prop := ∃ (bs : List Bool) (k : Bool), lstOf h x = some (bs.map D.bl) ∧ ys = [.bl k] ∧ Q (.int ((bs.countP fun b => b == k : Nat) : Int)) h
def dIndexB (x : D) (ys : List D) (h : AH) (Q : KD) : Prop := ∃ (bs : List Bool) (k : Bool) (j : Nat), lstOf h x = some (bs.map D.bl) ∧ ys = [.bl k] ∧ bs.findIdx? (fun b => b == k) = some j ∧ Q (.int (j : Nat)) h
theorem reps_bl {K : PySem.W.Frag} {F : Hp} : ∀ {bs : List Bool} {vs : List V}, Reps K F (bs.map D.bl) vs → vs = bs.map V.bl
  | [], _, .nil => rfl
  | b :: bs, _, .cons r t => by cases r; rw [List.map_cons, reps_bl t]
theorem flat_bl : ∀ {bs : List Bool}, (bs.map V.bl).all flatV = true
  | [] => rfl
  | b :: bs => by rw [List.map_cons, List.all_cons, flat_bl]; rfl
theorem dCountB_ok {K : PySem.W.Frag} : MeD K "list" (rCntF K) dCountB isL where
  ty := isL_ty
  mo := fun hq ⟨bs, k, e1, e2, q⟩ => ⟨bs, k, e1, e2, hq _ _ q⟩
  to := by
    rintro F h H x ys vx vs Q S rx rs ⟨bs, k, e, rfl, q⟩
    obtain ⟨a, us, rfl, ha, ru⟩ := S.lstOf rx e
    obtain rfl := reps_bl ru
    cases rs with
    | cons r rs =>
      cases rs
      cases r
      refine ⟨a, _, .bl k, rfl, rfl, .of ha, rfl, flat_bl, ?_⟩
      have ec : (bs.map V.bl).countP (fun z => eqV z (.bl k)) = bs.countP fun b => b == k := by
        rw [List.countP_map]; rfl
      rw [ec]
      exact q F H _ (.refl F) S (.int _)
theorem dIndexB_ok {K : PySem.W.Frag} : MeD K "list" (rIndex K) dIndexB isL where
  ty := isL_ty
  mo := fun hq ⟨bs, k, j, e1, e2, e3, q⟩ => ⟨bs, k, j, e1, e2, e3, hq _ _ q⟩
  to := by
    rintro F h H x ys vx vs Q S rx rs ⟨bs, k, j, e, rfl, hj, q⟩
    obtain ⟨a, us, rfl, ha, ru⟩ := S.lstOf rx e
    obtain rfl := reps_bl ru
    obtain ⟨hl, h1, h2⟩ := List.findIdx?_eq_some_iff_getElem.mp hj
    cases rs with
    | cons r rs =>
      cases rs
      cases r
      refine ⟨a, _, .bl k, j, .bl bs[j], rfl, rfl, .of ha, rfl, flat_bl, ?_, h1, fun m z' hm hz => ?_, q F H _ (.refl F) S (.int _)⟩
      · rw [List.getElem?_map, List.getElem?_eq_getElem hl]; rfl
      · have lm : m < bs.length := Nat.lt_trans hm hl
        rw [List.getElem?_map, List.getElem?_eq_getElem lm] at hz
        obtain rfl := Option.some.inj hz
        have z := h2 m hm
        exact Bool.eq_false_iff.mpr z
section
variable {X : Cx} {E : XK} {o e : Expr} {wo : WE} {wl : WA} {apos cpos : Pos}
theorem ae_countB (ho : AE X E o wo) (ha : AA X E [e] wl) (hbase : attributeBase o "count" X.env (eval o X.env) = eval o X.env := by rfl)
    (hfew : ((backTo cpos (starEach [e] X.env)).all (fun x => !x.1) && (backToKw cpos (keywordEach [] X.env)).all (fun x => x.1.isSome) && decide ([e].length + ([] : List Keyword).length + (if ([] : List Keyword).isEmpty then 0 else 1) < 30)) = true := by rfl)
    (hline : (apos.endLine == cpos.line) = true := by rfl) (hs : starEach [e] X.env = (false, eval e X.env) :: starEach [] X.env := by rfl) (hplain : (backTo cpos (starEach [] X.env)).any (·.1) = false := by rfl) :
    AE X E (.Call (.Attribute o "count" apos) [e] [] cpos) (wMethT isL dCountB wo wl) :=
  ae_bm dCountB_ok mt_countF PySem.F.plainAttrs_list PySem.F.slot_list_count PySem.F.type_list_count ho ha hbase hfew hline hs hplain
theorem ae_indexB (ho : AE X E o wo) (ha : AA X E [e] wl) (hbase : attributeBase o "index" X.env (eval o X.env) = eval o X.env := by rfl)
    (hfew : ((backTo cpos (starEach [e] X.env)).all (fun x => !x.1) && (backToKw cpos (keywordEach [] X.env)).all (fun x => x.1.isSome) && decide ([e].length + ([] : List Keyword).length + (if ([] : List Keyword).isEmpty then 0 else 1) < 30)) = true := by rfl)
    (hline : (apos.endLine == cpos.line) = true := by rfl) (hs : starEach [e] X.env = (false, eval e X.env) :: starEach [] X.env := by rfl) (hplain : (backTo cpos (starEach [] X.env)).any (·.1) = false := by rfl) :
    AE X E (.Call (.Attribute o "index" apos) [e] [] cpos) (wMethT isL dIndexB wo wl) :=
  ae_bm dIndexB_ok mt_index PySem.F.plainAttrs_list PySem.F.slot_list_index PySem.F.type_list_index ho ha hbase hfew hline hs hplain
end
/-! ### list(range(n)) -/
end DL
/-! isinstance by a table: which type's values are instances of which own class -/
namespace DL
open PySem PySem.Spec L2 C8 PyProof.Rows
end DL
namespace PK
open DL
end PK
namespace PK
open PySem PySem.Spec L2 C8 DL
/-! ### loops over what is left -/
theorem loop_rest {st : AH → Prop} {g : WG} {tb : WS} {Z : EndsD} (P : List D → EnvD → AH → Prop) (hst : ∀ l ρ h, P l ρ h → st h)
    (hs : ∀ x l ρ h (K : EnvD → AH → Prop), P (x :: l) ρ h → (∀ ρ h, P l ρ h → K ρ h) → g x ρ h (fun ρ2 h2 => tb { Z with nx := K, ct := K, bk := Z.nx } ρ2 h2) Z.ex)
    (hd : ∀ ρ h, P [] ρ h → Z.nx ρ h) : ∀ (xs : List D) (ρ : EnvD) (h : AH), P xs ρ h → loopD st g tb Z xs ρ h
  | [], ρ, h, p => ⟨hst _ _ _ p, hd _ _ p⟩
  | x :: l, ρ, h, p => ⟨hst _ _ _ p, hs x l ρ h _ p fun ρ h q => loop_rest P hst hs hd l ρ h q⟩
def numF : Nat → List D → List D
  | _, [] => []
  | i, x :: l => .tup [.int (i : Nat), x] :: numF (i + 1) l
theorem numF_get : ∀ (i : Nat) (xs : List D) (j : Nat), (numF i xs)[j]? = (xs[j]?).map fun x => D.tup [.int ((i + j : Nat) : Int), x]
  | i, [], j => by simp [numF]
  | i, x :: l, 0 => by simp [numF]
  | i, x :: l, j + 1 => by
    rw [numF, List.getElem?_cons_succ, List.getElem?_cons_succ, numF_get (i + 1) l j, show i + 1 + j = i + (j + 1) by omega]
theorem numD_F (xs : List D) : numD xs = numF 0 xs := by
  apply List.ext_getElem?
  intro j
  rw [numF_get]
  cases e : xs[j]? with
  | none =>
    have : xs.length ≤ j := List.getElem?_eq_none_iff.mp e
    rw [List.getElem?_eq_none (by rw [numD_len]; exact this)]; rfl
  | some x =>
    have l := (List.getElem?_eq_some_iff.mp e).1
    have l2 : j < (numD xs).length := by rw [numD_len]; exact l
    obtain ⟨y, hy, hd⟩ := numD_get (List.getElem?_eq_getElem l2)
    rw [List.getElem?_eq_getElem l2, hd]
    rw [hy] at e
    cases e
    simp
/-! ### typed lists -/
theorem encs_map : ∀ b : List Ac, encs b = b.map enc
  | [] => rfl
  | a :: r => by rw [encs, encs_map r]; rfl
theorem encs_app {b c : List Ac} : encs (b ++ c) = encs b ++ encs c := by rw [encs_map, encs_map, encs_map, List.map_append]
theorem encs_len {b : List Ac} : (encs b).length = b.length := by rw [encs_map, List.length_map]
theorem encs_cons {b : List Ac} {x : D} {l : List D} (h : x :: l = encs b) : ∃ a r, b = a :: r ∧ x = enc a ∧ l = encs r := by
  cases b with
  | nil => cases h
  | cons a r => rw [encs] at h; cases h; exact ⟨a, r, rfl, rfl, rfl⟩
theorem encs_nil {b : List Ac} (h : [] = encs b) : b = [] := by
  cases b with
  | nil => rfl
  | cons a r => rw [encs] at h; cases h
theorem okB_cons {a : Ac} {r : List Ac} (h : okB (a :: r) = true) : okA a = true ∧ okB r = true := by
  rw [okB, Bool.and_eq_true] at h; exact h
theorem okB_app : ∀ {b c : List Ac}, okB (b ++ c) = (okB b && okB c)
  | [], c => by simp [okB]
  | a :: r, c => by rw [List.cons_append, okB, okB, okB_app, Bool.and_assoc]
theorem dptB_app : ∀ {b c : List Ac}, dptB (b ++ c) = max (dptB b) (dptB c)
  | [], c => by simp [dptB]
  | a :: r, c => by rw [List.cons_append, dptB, dptB, dptB_app]; omega
theorem cntB_app : ∀ {b c : List Ac}, cntB (b ++ c) = cntB b + cntB c
  | [], c => by simp [cntB]
  | a :: r, c => by rw [List.cons_append, cntB, cntB, cntB_app]; omega
theorem okA_inn {a : Ac} (h : okA a = true) : okB (inn a) = true := by
  cases a with
  | bare w => rfl
  | write n => rfl
  | fork b => rw [okA] at h; exact h
  | rep n b => rw [okA, Bool.and_eq_true] at h; exact h.2
theorem dpt_inn {a : Ac} : dptB (inn a) < dptA a := by
  cases a with
  | bare w => rw [dptA, inn, dptB]; omega
  | write n => rw [dptA, inn, dptB]; omega
  | fork b => rw [dptA, inn]; omega
  | rep n b => rw [dptA, inn]; omega
theorem cnt_inn {a : Ac} : cntA a = cntB (inn a) + 1 := by
  cases a with
  | bare w => rw [cntA, inn, cntB]
  | write n => rw [cntA, inn, cntB]
  | fork b => rw [cntA, inn]
  | rep n b => rw [cntA, inn]
theorem len_cnt : ∀ {b : List Ac}, b.length ≤ cntB b
  | [] => Nat.le_refl _
  | a :: r => by
    have := len_cnt (b := r)
    have := cnt_inn (a := a)
    rw [List.length_cons, cntB]; omega
/-- what an action looks like -/
def parts : Ac → List D
  | .bare _ => []
  | .write n => [.int n]
  | .fork b => [.tup (encs b)]
  | .rep n b => [.int n, .tup (encs b)]
theorem enc_eq {a : Ac} : enc a = .tup (.str (word a) :: parts a) := by
  cases a <;> rw [enc, parts, word]
theorem bare_ne {w : Str} (h : bare w = true) : w ≠ "fork" ∧ w ≠ "repeat" ∧ w ≠ "write" := by
  refine ⟨?_, ?_, ?_⟩ <;> rintro rfl <;> revert h <;> decide +kernel
theorem word_fork {a : Ac} (h : okA a = true) : word a = "fork" ↔ ∃ b, a = .fork b := by
  cases a with
  | bare w => rw [okA] at h; exact ⟨fun e => absurd e (bare_ne h).1, fun ⟨b, e⟩ => by cases e⟩
  | write n => exact ⟨fun e => absurd (show ("write" : Str) = "fork" from e) (by decide), fun ⟨b, e⟩ => by cases e⟩
  | fork b => exact ⟨fun _ => ⟨b, rfl⟩, fun _ => rfl⟩
  | rep n b => exact ⟨fun e => absurd (show ("repeat" : Str) = "fork" from e) (by decide), fun ⟨b, e⟩ => by cases e⟩
theorem word_rep {a : Ac} (h : okA a = true) : word a = "repeat" ↔ ∃ n b, a = .rep n b := by
  cases a with
  | bare w => rw [okA] at h; exact ⟨fun e => absurd e (bare_ne h).2.1, fun ⟨n, b, e⟩ => by cases e⟩
  | write n => exact ⟨fun e => absurd (show ("write" : Str) = "repeat" from e) (by decide), fun ⟨n, b, e⟩ => by cases e⟩
  | fork b => exact ⟨fun e => absurd (show ("fork" : Str) = "repeat" from e) (by decide), fun ⟨n, b, e⟩ => by cases e⟩
  | rep n b => exact ⟨fun _ => ⟨n, b, rfl⟩, fun _ => rfl⟩
theorem head_ok {a : Ac} (h : okA a = true) : headL (.str (word a) :: parts a) = true := by
  cases a with
  | bare w =>
    rw [okA] at h
    unfold headL word parts; dsimp only; rw [if_pos h]; rfl
  | write n =>
    rw [okA, Bool.and_eq_true, decide_eq_true_iff, decide_eq_true_iff] at h
    unfold headL word parts; dsimp only
    rw [bare_write, if_neg (by decide), if_pos rfl]
    show (decide ((1 : Int) ≤ n) && decide ((n : Int) ≤ 2000)) = true
    rw [decide_eq_true (by omega), decide_eq_true (by omega)]; rfl
  | fork b =>
    unfold headL word parts; dsimp only
    rw [bare_fork, if_neg (by decide), if_neg (by decide), if_pos rfl]; rfl
  | rep n b =>
    rw [okA, Bool.and_eq_true, decide_eq_true_iff] at h
    unfold headL word parts; dsimp only
    rw [bare_repeat, if_neg (by decide), if_neg (by decide), if_neg (by decide), if_pos rfl]
    show (decide ((0 : Int) ≤ n) && decide ((n : Int) ≤ 300) && true) = true
    rw [decide_eq_true (by omega), decide_eq_true (by omega)]; rfl
theorem inn_ok {a : Ac} (h : okA a = true) : innD (.str (word a) :: parts a) = .tup (encs (inn a)) := by
  cases a with
  | bare w =>
    rw [okA] at h
    unfold innD word parts inn; dsimp only
    rw [if_neg (by rintro (e | e); exact (bare_ne h).1 e; exact (bare_ne h).2.1 e)]; rfl
  | write n => unfold innD word parts inn; dsimp only; rw [if_neg (by decide)]; rfl
  | fork b => unfold innD word parts inn; dsimp only; rw [if_pos (.inl rfl)]; rfl
  | rep n b => unfold innD word parts inn; dsimp only; rw [if_pos (.inr rfl)]; rfl
theorem byt_ok {a : Ac} (h : okA a = true) : bytD (.str (word a) :: parts a) = .int (byt a : Nat) := by
  cases a with
  | bare w =>
    rw [okA] at h
    unfold bytD word parts byt; dsimp only
    rw [if_neg (bare_ne h).2.2]
    by_cases c : w = "line"
    · rw [if_pos c, if_pos c]; rfl
    · rw [if_neg c, if_neg c]; rfl
  | write n => unfold bytD word parts byt; dsimp only; rw [if_pos rfl]; rfl
  | fork b => unfold bytD word parts byt; dsimp only; rw [if_neg (by decide), if_neg (by decide)]; rfl
  | rep n b => unfold bytD word parts byt; dsimp only; rw [if_neg (by decide), if_neg (by decide)]; rfl
theorem go_inn {z : Ad} {a : Ac} (h : okA a = true) {g : AH} {Q : KD} {X : KX} (q : Q (.tup (encs (inn a))) g) : S_inner_of z [enc a] g Q X :=
  ⟨_, by rw [enc_eq], head_ok h, by rw [inn_ok h]; exact q⟩
theorem go_byt {z : Ad} {a : Ac} (h : okA a = true) {g : AH} {Q : KD} {X : KX} (q : Q (.int (byt a : Nat)) g) : S_bytes_of z [enc a] g Q X :=
  ⟨_, by rw [enc_eq], head_ok h, by rw [byt_ok h]; exact q⟩
theorem ix_word {a : Ac} {g : AH} {Q : KD} : dIx (enc a) (.int 0) g Q = Q (.str (word a)) g := by rw [enc_eq, u_ixTd at0]
mutual
theorem thA_ok : ∀ {a : Ac}, okA a = true → cntA a ≤ 900 → th (enc a) = true
  | .bare w, h, _ => by rw [enc, th, ths, ths, th]; rfl
  | .write n, h, _ => by
    rw [okA, Bool.and_eq_true, decide_eq_true_iff, decide_eq_true_iff] at h
    have : ((n : Nat) : Int).natAbs < 2 ^ 64 := by omega
    rw [enc, th, ths, ths, ths, th, th, decide_eq_true this]; rfl
  | .fork b, h, c => by
    rw [okA] at h; rw [cntA] at c
    rw [enc, th, ths, ths, ths, th, thB_ok h (by omega)]; rfl
  | .rep n b, h, c => by
    rw [okA, Bool.and_eq_true, decide_eq_true_iff] at h; rw [cntA] at c
    have : ((n : Nat) : Int).natAbs < 2 ^ 64 := by omega
    rw [enc, th, ths, ths, ths, ths, th, th, decide_eq_true this, thB_ok h.2 (by omega)]; rfl
theorem thB_ok : ∀ {b : List Ac}, okB b = true → cntB b ≤ 900 → th (.tup (encs b)) = true
  | b, h, c => by
    have l := len_cnt (b := b)
    rw [th, Bool.and_eq_true, decide_eq_true_iff]
    exact ⟨by rw [encs_len]; omega, thsB_ok h c⟩
theorem thsB_ok : ∀ {b : List Ac}, okB b = true → cntB b ≤ 900 → ths (encs b) = true
  | [], _, _ => by rw [encs, ths]
  | a :: r, h, c => by
    obtain ⟨h1, h2⟩ := okB_cons h
    rw [cntB] at c
    rw [encs, ths, thA_ok h1 (by omega), thsB_ok h2 (by omega)]; rfl
end
theorem headD_ok {a : Ac} (h : okA a = true) : headD (enc a) = true := by rw [enc_eq]; exact head_ok h
end PK
namespace PK
open PySem PySem.Spec L2 C8 DL
theorem len_wrong_in (z : Ad) (n : Nat) : ∀ ds h Q X, S_wrong_in z n ds h Q X → ds.length = 3 := fun _ _ _ _ ⟨_, _, _, e, _⟩ => by rw [e]; rfl
theorem mo_wrong_in (z : Ad) (n : Nat) : MoF (S_wrong_in z n) := fun _ _ _ _ _ _ hq _ ⟨v0, v1, v2, e, o0, o1, o2, o3, q⟩ => ⟨v0, v1, v2, e, o0, o1, o2, o3, hq _ _ q⟩
theorem len_first_wrong (z : Ad) : ∀ ds h Q X, S_first_wrong z ds h Q X → ds.length = 1 := fun _ _ _ _ ⟨_, e, _⟩ => by rw [e]; rfl
theorem mo_first_wrong (z : Ad) : MoF (S_first_wrong z) := fun _ _ _ _ _ _ hq _ ⟨v0, e, o0, q⟩ => ⟨v0, e, o0, hq _ _ q⟩
theorem len_size_in (z : Ad) (n : Nat) : ∀ ds h Q X, S_size_in z n ds h Q X → ds.length = 1 := fun _ _ _ _ ⟨_, e, _⟩ => by rw [e]; rfl
theorem mo_size_in (z : Ad) (n : Nat) : MoF (S_size_in z n) := fun _ _ _ _ _ _ hq _ ⟨v0, e, o0, o1, q⟩ => ⟨v0, e, o0, o1, hq _ _ q⟩
theorem len_bytes_in (z : Ad) (n : Nat) : ∀ ds h Q X, S_bytes_in z n ds h Q X → ds.length = 1 := fun _ _ _ _ ⟨_, e, _⟩ => by rw [e]; rfl
theorem mo_bytes_in (z : Ad) (n : Nat) : MoF (S_bytes_in z n) := fun _ _ _ _ _ _ hq _ ⟨v0, e, o0, o1, q⟩ => ⟨v0, e, o0, o1, hq _ _ q⟩
theorem len_reach_in (z : Ad) (n : Nat) : ∀ ds h Q X, S_reach_in z n ds h Q X → ds.length = 1 := fun _ _ _ _ ⟨_, e, _⟩ => by rw [e]; rfl
theorem mo_reach_in (z : Ad) (n : Nat) : MoF (S_reach_in z n) := fun _ _ _ _ _ _ hq _ ⟨v0, e, o0, o1, o2, q⟩ => ⟨v0, e, o0, o1, o2, hq _ _ q⟩
theorem len_Program___init__ (z : Ad) : ∀ ds h Q X, S_Program___init__ z ds h Q X → ds.length = 2 := fun _ _ _ _ ⟨_, _, _, e, _⟩ => by rw [e]; rfl
theorem mo_Program___init__ (z : Ad) : MoF (S_Program___init__ z) := fun _ _ _ _ _ _ hq _ ⟨v0, v1, v2, e, o0, o1, q⟩ => ⟨v0, v1, v2, e, o0, o1, hq _ _ q⟩
theorem len_Program_of (z : Ad) : ∀ ds h Q X, S_Program_of z ds h Q X → ds.length = 2 := fun _ _ _ _ ⟨_, _, e, _⟩ => by rw [e]; rfl
theorem mo_Program_of (z : Ad) : MoF (S_Program_of z) := fun _ _ _ _ _ _ hq _ ⟨v0, v1, e, o0, q⟩ => ⟨v0, v1, e, o0, hq _ _ q⟩
theorem len_Program_size (z : Ad) : ∀ ds h Q X, S_Program_size z ds h Q X → ds.length = 1 := fun _ _ _ _ ⟨_, _, e, _⟩ => by rw [e]; rfl
theorem mo_Program_size (z : Ad) : MoF (S_Program_size z) := fun _ _ _ _ _ _ hq _ ⟨v0, v1, e, o0, o1, q⟩ => ⟨v0, v1, e, o0, o1, hq _ _ q⟩
theorem len_Program_reach (z : Ad) : ∀ ds h Q X, S_Program_reach z ds h Q X → ds.length = 1 := fun _ _ _ _ ⟨_, _, e, _⟩ => by rw [e]; rfl
theorem mo_Program_reach (z : Ad) : MoF (S_Program_reach z) := fun _ _ _ _ _ _ hq _ ⟨v0, v1, e, o0, o1, q⟩ => ⟨v0, v1, e, o0, o1, hq _ _ q⟩
theorem no_wrong_in (z : Ad) : ∀ ds h Q X, ¬ S_wrong_in z 0 ds h Q X := fun _ _ _ _ ⟨_, _, _, _, _, l, _⟩ => by omega
theorem no_size_in (z : Ad) : ∀ ds h Q X, ¬ S_size_in z 0 ds h Q X := fun _ _ _ _ ⟨_, _, _, l, _⟩ => by omega
theorem no_bytes_in (z : Ad) : ∀ ds h Q X, ¬ S_bytes_in z 0 ds h Q X := fun _ _ _ _ ⟨_, _, _, l, _⟩ => by omega
theorem no_reach_in (z : Ad) : ∀ ds h Q X, ¬ S_reach_in z 0 ds h Q X := fun _ _ _ _ ⟨_, _, _, l, _⟩ => by omega
theorem dptA_pos {a : Ac} : 1 ≤ dptA a := by cases a <;> rw [dptA] <;> omega
theorem big_mul {n : Nat} (h : n ≤ 300) {j : Int} : MulOk (n : Int) j := .inl ⟨by omega, by omega⟩
theorem plc_add {p : List Nat} {i : Nat} : D.tup (p.map natD ++ [.int i]) = plcD (p ++ [i]) := by
  rw [plcD, List.map_append]; rfl
theorem numF_cons {x : D} {l : List D} {i : Nat} {b : List Ac} (h : x :: l = numF i (encs b)) : ∃ a r, b = a :: r ∧ x = .tup [.int i, enc a] ∧ l = numF (i + 1) (encs r) := by
  cases b with
  | nil => rw [encs, numF] at h; cases h
  | cons a r => rw [encs, numF] at h; cases h; exact ⟨a, r, rfl, rfl, rfl⟩
theorem numF_nil {i : Nat} {b : List Ac} (h : [] = numF i (encs b)) : b = [] := by
  cases b with
  | nil => rfl
  | cons a r => rw [encs, numF] at h; cases h
theorem go_t2 {x y : D} {i j : Nat} {ρ : EnvD} {h : AH} {Q : EnvD → AH → Prop} {X : KX} (q : Q ((ρ.set i (some x)).set j (some y)) h) : gT 2 (gsCons (gN i) (gsCons (gN j) gsNil)) (.tup [x, y]) ρ h Q X :=
  ⟨_, rfl, rfl, _, _, rfl, _, _, rfl, rfl, q⟩
theorem sz_le {n : Nat} (h : n ≤ 100000) : n ≤ sizeLine := Nat.le_trans h big_size
end PK
namespace PK
open PySem PySem.Spec L2 C8 DL
theorem p_wrong_in (z : Ad) (n : Nat) : ∀ ds h Q X, S_wrong_in z (n + 1) ds h Q X → w_wrong_in z n (endsD Q X) (startD 7 ds) h := by
  rintro ds h Q X ⟨b, p, c, rfl, ok, dp, lp, lc, q⟩
  show w_wrong_in z n (endsD Q X) [some (.tup (encs b)), some (plcD p), some (.int (c : Nat)), none, none, none, none] h
  unfold w_wrong_in
  ((try dsimp only); rw [u_seq]; (try simp only [u_asg, u_gN, u_ret, u_retN, u_skip, u_expr, u_ifs, u_c, u_op, u_neg, u_test, u_and, u_or, u_not, u_if, u_nil, u_cons, u_tup, u_lst, u_callP, u_call, u_b, u_chain, u_andV, u_addI, u_subI, u_mulI, u_divI, u_modI, u_powI, u_cmpI, u_eqI, u_eqS, u_eqB, u_abs, u_intI, u_intB, u_newT, u_newF, u_isN, u_notN, wVar, List.set_cons_zero, List.set_cons_succ, List.getElem?_cons_zero, List.getElem?_cons_succ, List.length_cons, List.length_nil, u_lc, u_for, u_r1, u_r2, u_r3, u_num, u_notV, u_yes, u_w0, u_w1, u_dput, u_get2, u_dget, u_prop, u_fld, u_setF, u_make, u_makeS, u_met, u_calO, u_orT, u_tupIt, u_dc, u_maxDd, u_dnew, u_tupi, ix_p0, ix_p1, wSl, woNone, woSome]))
  rw [numD_F]
  refine loop_rest (fun l ρ h' => ∃ i b2 c2 a3 a4 a5 a6, l = numF i (encs b2) ∧ ρ = [some (.tup (encs b)), some (plcD p), some (.int ((c2 : Nat) : Int)), a3, a4, a5, a6] ∧ h = h' ∧ okB b2 = true ∧ dptB b2 ≤ dptB b ∧ c2 + cntB b2 = c + cntB b) (fun _ _ _ _ => trivial) ?_ ?_ _ _ _
    ⟨0, b, c, _, _, _, _, rfl, rfl, rfl, ok, Nat.le_refl _, rfl⟩
  · rintro x l _ _ K ⟨i, b2, c2, a3, a4, a5, a6, hl, rfl, rfl, ok2, dp2, ln⟩ k
    obtain ⟨a, r, rfl, rfl, rfl⟩ := numF_cons hl
    obtain ⟨oa, or_⟩ := okB_cons ok2
    rw [dptB] at dp2
    rw [cntB] at ln
    have ci := cnt_inn (a := a)
    have di := dpt_inn (a := a)
    refine go_t2 ?_
    dsimp only [List.set_cons_zero, List.set_cons_succ]
    ((try dsimp only); rw [u_seq]; (try simp only [u_asg, u_gN, u_ret, u_retN, u_skip, u_expr, u_ifs, u_c, u_op, u_neg, u_test, u_and, u_or, u_not, u_if, u_nil, u_cons, u_tup, u_lst, u_callP, u_call, u_b, u_chain, u_andV, u_addI, u_subI, u_mulI, u_divI, u_modI, u_powI, u_cmpI, u_eqI, u_eqS, u_eqB, u_abs, u_intI, u_intB, u_newT, u_newF, u_isN, u_notN, wVar, List.set_cons_zero, List.set_cons_succ, List.getElem?_cons_zero, List.getElem?_cons_succ, List.length_cons, List.length_nil, u_lc, u_for, u_r1, u_r2, u_r3, u_num, u_notV, u_yes, u_w0, u_w1, u_dput, u_get2, u_dget, u_prop, u_fld, u_setF, u_make, u_makeS, u_met, u_calO, u_orT, u_tupIt, u_dc, u_maxDd, u_dnew, u_tupi, ix_p0, ix_p1, wSl, woNone, woSome]))
    simp only [u_star, u_asg, u_gN, u_ret, u_retN, u_skip, u_expr, u_ifs, u_c, u_op, u_neg, u_test, u_and, u_or, u_not, u_if, u_nil, u_cons, u_tup, u_lst, u_callP, u_call, u_b, u_chain, u_andV, u_addI, u_subI, u_mulI, u_divI, u_modI, u_powI, u_cmpI, u_eqI, u_eqS, u_eqB, u_abs, u_intI, u_intB, u_newT, u_newF, u_isN, u_notN, wVar, List.set_cons_zero, List.set_cons_succ, List.getElem?_cons_zero, List.getElem?_cons_succ, List.length_cons, List.length_nil, u_lc, u_for, u_r1, u_r2, u_r3, u_num, u_notV, u_yes, u_w0, u_w1, u_dput, u_get2, u_dget, u_prop, u_fld, u_setF, u_make, u_makeS, u_met, u_calO, u_orT, u_tupIt, u_dc, u_maxDd, u_dnew, u_tupi, ix_p0, ix_p1, wSl, woNone, woSome]
    refine ⟨_, rfl, sz_le (by simp; omega), ?_⟩
    rw [plc_add]
    ((try dsimp only); rw [u_seq]; (try simp only [u_asg, u_gN, u_ret, u_retN, u_skip, u_expr, u_ifs, u_c, u_op, u_neg, u_test, u_and, u_or, u_not, u_if, u_nil, u_cons, u_tup, u_lst, u_callP, u_call, u_b, u_chain, u_andV, u_addI, u_subI, u_mulI, u_divI, u_modI, u_powI, u_cmpI, u_eqI, u_eqS, u_eqB, u_abs, u_intI, u_intB, u_newT, u_newF, u_isN, u_notN, wVar, List.set_cons_zero, List.set_cons_succ, List.getElem?_cons_zero, List.getElem?_cons_succ, List.length_cons, List.length_nil, u_lc, u_for, u_r1, u_r2, u_r3, u_num, u_notV, u_yes, u_w0, u_w1, u_dput, u_get2, u_dget, u_prop, u_fld, u_setF, u_make, u_makeS, u_met, u_calO, u_orT, u_tupIt, u_dc, u_maxDd, u_dnew, u_tupi, ix_p0, ix_p1, wSl, woNone, woSome]))
    ((try dsimp only); rw [u_seq]; (try simp only [u_asg, u_gN, u_ret, u_retN, u_skip, u_expr, u_ifs, u_c, u_op, u_neg, u_test, u_and, u_or, u_not, u_if, u_nil, u_cons, u_tup, u_lst, u_callP, u_call, u_b, u_chain, u_andV, u_addI, u_subI, u_mulI, u_divI, u_modI, u_powI, u_cmpI, u_eqI, u_eqS, u_eqB, u_abs, u_intI, u_intB, u_newT, u_newF, u_isN, u_notN, wVar, List.set_cons_zero, List.set_cons_succ, List.getElem?_cons_zero, List.getElem?_cons_succ, List.length_cons, List.length_nil, u_lc, u_for, u_r1, u_r2, u_r3, u_num, u_notV, u_yes, u_w0, u_w1, u_dput, u_get2, u_dget, u_prop, u_fld, u_setF, u_make, u_makeS, u_met, u_calO, u_orT, u_tupIt, u_dc, u_maxDd, u_dnew, u_tupi, ix_p0, ix_p1, wSl, woNone, woSome]))
    refine ⟨trivial, _, rfl, thA_ok oa (by omega), ?_⟩
    rw [headD_ok oa]
    simp only [Bool.not_true, Bool.false_eq_true, if_false]
    rw [plcD, u_lenT]
    simp only [u_asg, u_gN, u_ret, u_retN, u_skip, u_expr, u_ifs, u_c, u_op, u_neg, u_test, u_and, u_or, u_not, u_if, u_nil, u_cons, u_tup, u_lst, u_callP, u_call, u_b, u_chain, u_andV, u_addI, u_subI, u_mulI, u_divI, u_modI, u_powI, u_cmpI, u_eqI, u_eqS, u_eqB, u_abs, u_intI, u_intB, u_newT, u_newF, u_isN, u_notN, wVar, List.set_cons_zero, List.set_cons_succ, List.getElem?_cons_zero, List.getElem?_cons_succ, List.length_cons, List.length_nil, u_lc, u_for, u_r1, u_r2, u_r3, u_num, u_notV, u_yes, u_w0, u_w1, u_dput, u_get2, u_dget, u_prop, u_fld, u_setF, u_make, u_makeS, u_met, u_calO, u_orT, u_tupIt, u_dc, u_maxDd, u_dnew, u_tupi, ix_p0, ix_p1, wSl, woNone, woSome]
    rw [if_neg (by rw [decide_eq_false (by simp; omega)]; decide), if_neg (by rw [decide_eq_false (by omega)]; decide)]
    rw [← plcD]
    ((try dsimp only); rw [u_seq]; (try simp only [u_asg, u_gN, u_ret, u_retN, u_skip, u_expr, u_ifs, u_c, u_op, u_neg, u_test, u_and, u_or, u_not, u_if, u_nil, u_cons, u_tup, u_lst, u_callP, u_call, u_b, u_chain, u_andV, u_addI, u_subI, u_mulI, u_divI, u_modI, u_powI, u_cmpI, u_eqI, u_eqS, u_eqB, u_abs, u_intI, u_intB, u_newT, u_newF, u_isN, u_notN, wVar, List.set_cons_zero, List.set_cons_succ, List.getElem?_cons_zero, List.getElem?_cons_succ, List.length_cons, List.length_nil, u_lc, u_for, u_r1, u_r2, u_r3, u_num, u_notV, u_yes, u_w0, u_w1, u_dput, u_get2, u_dget, u_prop, u_fld, u_setF, u_make, u_makeS, u_met, u_calO, u_orT, u_tupIt, u_dc, u_maxDd, u_dnew, u_tupi, ix_p0, ix_p1, wSl, woNone, woSome]))
    refine ⟨trivial, go_inn oa ⟨trivial, inn a, p ++ [i], c2 + 1, ?_, okA_inn oa, by omega, by simp; omega, by omega, ?_⟩⟩
    · rw [show ((c2 + 1 : Nat) : Int) = (c2 : Int) + 1 by omega]
    refine go_t2 ?_
    try simp only [u_asg, u_gN, u_ret, u_retN, u_skip, u_expr, u_ifs, u_c, u_op, u_neg, u_test, u_and, u_or, u_not, u_if, u_nil, u_cons, u_tup, u_lst, u_callP, u_call, u_b, u_chain, u_andV, u_addI, u_subI, u_mulI, u_divI, u_modI, u_powI, u_cmpI, u_eqI, u_eqS, u_eqB, u_abs, u_intI, u_intB, u_newT, u_newF, u_isN, u_notN, wVar, List.set_cons_zero, List.set_cons_succ, List.getElem?_cons_zero, List.getElem?_cons_succ, List.length_cons, List.length_nil, u_lc, u_for, u_r1, u_r2, u_r3, u_num, u_notV, u_yes, u_w0, u_w1, u_dput, u_get2, u_dget, u_prop, u_fld, u_setF, u_make, u_makeS, u_met, u_calO, u_orT, u_tupIt, u_dc, u_maxDd, u_dnew, u_tupi, ix_p0, ix_p1, wSl, woNone, woSome]
    try simp only [dIsN, Bool.not_true, Bool.false_eq_true, if_false]
    exact k _ _ ⟨i + 1, r, c2 + 1 + cntB (inn a), _, _, _, _, rfl, rfl, rfl, or_, by omega, by omega⟩
  · rintro _ _ ⟨i, b2, c2, a3, a4, a5, a6, hl, rfl, rfl, ok2, dp2, ln⟩
    obtain rfl := numF_nil hl
    try simp only [u_asg, u_gN, u_ret, u_retN, u_skip, u_expr, u_ifs, u_c, u_op, u_neg, u_test, u_and, u_or, u_not, u_if, u_nil, u_cons, u_tup, u_lst, u_callP, u_call, u_b, u_chain, u_andV, u_addI, u_subI, u_mulI, u_divI, u_modI, u_powI, u_cmpI, u_eqI, u_eqS, u_eqB, u_abs, u_intI, u_intB, u_newT, u_newF, u_isN, u_notN, wVar, List.set_cons_zero, List.set_cons_succ, List.getElem?_cons_zero, List.getElem?_cons_succ, List.length_cons, List.length_nil, u_lc, u_for, u_r1, u_r2, u_r3, u_num, u_notV, u_yes, u_w0, u_w1, u_dput, u_get2, u_dget, u_prop, u_fld, u_setF, u_make, u_makeS, u_met, u_calO, u_orT, u_tupIt, u_dc, u_maxDd, u_dnew, u_tupi, ix_p0, ix_p1, wSl, woNone, woSome]
    rw [cntB, Nat.add_zero] at ln
    rw [ln]
    exact ⟨by decide, fin_of q⟩
theorem p_first_wrong (z : Ad) : ∀ ds h Q X, S_first_wrong z ds h Q X → w_first_wrong z (endsD Q X) (startD 1 ds) h := by
  rintro ds h Q X ⟨b, rfl, f, q⟩
  show w_first_wrong z (endsD Q X) [some (.tup (encs b))] h
  have := f.dpt
  have := f.cnt
  simp only [w_first_wrong, u_asg, u_gN, u_ret, u_retN, u_skip, u_expr, u_ifs, u_c, u_op, u_neg, u_test, u_and, u_or, u_not, u_if, u_nil, u_cons, u_tup, u_lst, u_callP, u_call, u_b, u_chain, u_andV, u_addI, u_subI, u_mulI, u_divI, u_modI, u_powI, u_cmpI, u_eqI, u_eqS, u_eqB, u_abs, u_intI, u_intB, u_newT, u_newF, u_isN, u_notN, wVar, List.set_cons_zero, List.set_cons_succ, List.getElem?_cons_zero, List.getElem?_cons_succ, List.length_cons, List.length_nil, u_lc, u_for, u_r1, u_r2, u_r3, u_num, u_notV, u_yes, u_w0, u_w1, u_dput, u_get2, u_dget, u_prop, u_fld, u_setF, u_make, u_makeS, u_met, u_calO, u_orT, u_tupIt, u_dc, u_maxDd, u_dnew, u_tupi, ix_p0, ix_p1, wSl, woNone, woSome]
  refine ⟨by decide, trivial, b, [], 0, rfl, f.ok, by omega, by simp; omega, by omega, ?_⟩
  dsimp only
  rw [u_ixTd at0]
  exact fin_of q
theorem ix_rep1 {m : Nat} {c : List Ac} {g : AH} {Q : KD} : dIx (enc (.rep m c)) (.int 1) g Q = Q (.int m) g := by rw [enc, u_ixTd at1]
theorem ix_rep2 {m : Nat} {c : List Ac} {g : AH} {Q : KD} : dIx (enc (.rep m c)) (.int 2) g Q = Q (.tup (encs c)) g := by rw [enc, u_ixTd at2]
theorem ix_fork1 {c : List Ac} {g : AH} {Q : KD} : dIx (enc (.fork c)) (.int 1) g Q = Q (.tup (encs c)) g := by rw [enc, u_ixTd at1]
theorem sizA_non {a : Ac} (h : word a ≠ "repeat") : sizA a = 1 + sizB (inn a) := by
  cases a with
  | bare w => rw [sizA, inn, sizB]
  | write m => rw [sizA, inn, sizB]
  | fork c => rw [sizA, inn]
  | rep m c => exact absurd rfl h
theorem bynA_non {a : Ac} (h : word a ≠ "repeat") : bynA a = byt a := by
  cases a with
  | bare w => rw [bynA]
  | write m => rw [bynA, byt]
  | fork c => rw [bynA, byt]
  | rep m c => exact absurd rfl h
theorem p_size_in (z : Ad) (n : Nat) : ∀ ds h Q X, S_size_in z (n + 1) ds h Q X → w_size_in z n (endsD Q X) (startD 4 ds) h := by
  rintro ds h Q X ⟨b, rfl, ok, dp, q⟩
  show w_size_in z n (endsD Q X) [some (.tup (encs b)), none, none, none] h
  unfold w_size_in
  ((try dsimp only); rw [u_seq]; (try simp only [u_asg, u_gN, u_ret, u_retN, u_skip, u_expr, u_ifs, u_c, u_op, u_neg, u_test, u_and, u_or, u_not, u_if, u_nil, u_cons, u_tup, u_lst, u_callP, u_call, u_b, u_chain, u_andV, u_addI, u_subI, u_mulI, u_divI, u_modI, u_powI, u_cmpI, u_eqI, u_eqS, u_eqB, u_abs, u_intI, u_intB, u_newT, u_newF, u_isN, u_notN, wVar, List.set_cons_zero, List.set_cons_succ, List.getElem?_cons_zero, List.getElem?_cons_succ, List.length_cons, List.length_nil, u_lc, u_for, u_r1, u_r2, u_r3, u_num, u_notV, u_yes, u_w0, u_w1, u_dput, u_get2, u_dget, u_prop, u_fld, u_setF, u_make, u_makeS, u_met, u_calO, u_orT, u_tupIt, u_dc, u_maxDd, u_dnew, u_tupi, ix_p0, ix_p1, wSl, woNone, woSome]))
  ((try dsimp only); rw [u_seq]; (try simp only [u_asg, u_gN, u_ret, u_retN, u_skip, u_expr, u_ifs, u_c, u_op, u_neg, u_test, u_and, u_or, u_not, u_if, u_nil, u_cons, u_tup, u_lst, u_callP, u_call, u_b, u_chain, u_andV, u_addI, u_subI, u_mulI, u_divI, u_modI, u_powI, u_cmpI, u_eqI, u_eqS, u_eqB, u_abs, u_intI, u_intB, u_newT, u_newF, u_isN, u_notN, wVar, List.set_cons_zero, List.set_cons_succ, List.getElem?_cons_zero, List.getElem?_cons_succ, List.length_cons, List.length_nil, u_lc, u_for, u_r1, u_r2, u_r3, u_num, u_notV, u_yes, u_w0, u_w1, u_dput, u_get2, u_dget, u_prop, u_fld, u_setF, u_make, u_makeS, u_met, u_calO, u_orT, u_tupIt, u_dc, u_maxDd, u_dnew, u_tupi, ix_p0, ix_p1, wSl, woNone, woSome]))
  refine loop_rest (fun l ρ h' => ∃ b2 t a2 a3, l = encs b2 ∧ ρ = [some (.tup (encs b)), some (.int ((t : Nat) : Int)), a2, a3] ∧ h = h' ∧ okB b2 = true ∧ dptB b2 ≤ dptB b ∧ t + sizB b2 = sizB b) (fun _ _ _ _ => trivial) ?_ ?_ _ _ _
    ⟨b, 0, _, _, rfl, rfl, rfl, ok, Nat.le_refl _, Nat.zero_add _⟩
  · rintro x l _ _ K ⟨b2, t, a2, a3, hl, rfl, rfl, ok2, dp2, ln⟩ k
    obtain ⟨a, r, rfl, rfl, rfl⟩ := encs_cons hl
    obtain ⟨oa, or_⟩ := okB_cons ok2
    rw [dptB] at dp2
    rw [sizB] at ln
    have di := dpt_inn (a := a)
    rw [u_gN]
    dsimp only [List.set_cons_zero, List.set_cons_succ]
    ((try dsimp only); rw [u_seq]; (try simp only [u_asg, u_gN, u_ret, u_retN, u_skip, u_expr, u_ifs, u_c, u_op, u_neg, u_test, u_and, u_or, u_not, u_if, u_nil, u_cons, u_tup, u_lst, u_callP, u_call, u_b, u_chain, u_andV, u_addI, u_subI, u_mulI, u_divI, u_modI, u_powI, u_cmpI, u_eqI, u_eqS, u_eqB, u_abs, u_intI, u_intB, u_newT, u_newF, u_isN, u_notN, wVar, List.set_cons_zero, List.set_cons_succ, List.getElem?_cons_zero, List.getElem?_cons_succ, List.length_cons, List.length_nil, u_lc, u_for, u_r1, u_r2, u_r3, u_num, u_notV, u_yes, u_w0, u_w1, u_dput, u_get2, u_dget, u_prop, u_fld, u_setF, u_make, u_makeS, u_met, u_calO, u_orT, u_tupIt, u_dc, u_maxDd, u_dnew, u_tupi, ix_p0, ix_p1, wSl, woNone, woSome]))
    refine ⟨trivial, go_inn oa ⟨trivial, inn a, rfl, okA_inn oa, by omega, ?_⟩⟩
    try simp only [u_asg, u_gN, u_ret, u_retN, u_skip, u_expr, u_ifs, u_c, u_op, u_neg, u_test, u_and, u_or, u_not, u_if, u_nil, u_cons, u_tup, u_lst, u_callP, u_call, u_b, u_chain, u_andV, u_addI, u_subI, u_mulI, u_divI, u_modI, u_powI, u_cmpI, u_eqI, u_eqS, u_eqB, u_abs, u_intI, u_intB, u_newT, u_newF, u_isN, u_notN, wVar, List.set_cons_zero, List.set_cons_succ, List.getElem?_cons_zero, List.getElem?_cons_succ, List.length_cons, List.length_nil, u_lc, u_for, u_r1, u_r2, u_r3, u_num, u_notV, u_yes, u_w0, u_w1, u_dput, u_get2, u_dget, u_prop, u_fld, u_setF, u_make, u_makeS, u_met, u_calO, u_orT, u_tupIt, u_dc, u_maxDd, u_dnew, u_tupi, ix_p0, ix_p1, wSl, woNone, woSome]
    rw [ix_word]
    try simp only [u_asg, u_gN, u_ret, u_retN, u_skip, u_expr, u_ifs, u_c, u_op, u_neg, u_test, u_and, u_or, u_not, u_if, u_nil, u_cons, u_tup, u_lst, u_callP, u_call, u_b, u_chain, u_andV, u_addI, u_subI, u_mulI, u_divI, u_modI, u_powI, u_cmpI, u_eqI, u_eqS, u_eqB, u_abs, u_intI, u_intB, u_newT, u_newF, u_isN, u_notN, wVar, List.set_cons_zero, List.set_cons_succ, List.getElem?_cons_zero, List.getElem?_cons_succ, List.length_cons, List.length_nil, u_lc, u_for, u_r1, u_r2, u_r3, u_num, u_notV, u_yes, u_w0, u_w1, u_dput, u_get2, u_dget, u_prop, u_fld, u_setF, u_make, u_makeS, u_met, u_calO, u_orT, u_tupIt, u_dc, u_maxDd, u_dnew, u_tupi, ix_p0, ix_p1, wSl, woNone, woSome]
    by_cases hr : word a = "repeat"
    · rw [if_pos (decide_eq_true hr)]
      obtain ⟨m, c, rfl⟩ := (word_rep oa).mp hr
      have om := oa
      rw [okA, Bool.and_eq_true, decide_eq_true_iff] at om
      rw [ix_rep1]
      try simp only [u_asg, u_gN, u_ret, u_retN, u_skip, u_expr, u_ifs, u_c, u_op, u_neg, u_test, u_and, u_or, u_not, u_if, u_nil, u_cons, u_tup, u_lst, u_callP, u_call, u_b, u_chain, u_andV, u_addI, u_subI, u_mulI, u_divI, u_modI, u_powI, u_cmpI, u_eqI, u_eqS, u_eqB, u_abs, u_intI, u_intB, u_newT, u_newF, u_isN, u_notN, wVar, List.set_cons_zero, List.set_cons_succ, List.getElem?_cons_zero, List.getElem?_cons_succ, List.length_cons, List.length_nil, u_lc, u_for, u_r1, u_r2, u_r3, u_num, u_notV, u_yes, u_w0, u_w1, u_dput, u_get2, u_dget, u_prop, u_fld, u_setF, u_make, u_makeS, u_met, u_calO, u_orT, u_tupIt, u_dc, u_maxDd, u_dnew, u_tupi, ix_p0, ix_p1, wSl, woNone, woSome]
      have e : (t : Int) + (m : Int) * (sizB (inn (.rep m c)) : Nat) = ((t + sizA (.rep m c) : Nat) : Int) := by rw [sizA, inn]; simp [Int.natCast_add]
      rw [e]
      exact ⟨big_mul om.1, k _ _ ⟨r, _, _, _, rfl, rfl, rfl, or_, by omega, by omega⟩⟩
    · rw [if_neg (by rw [decide_eq_false hr]; decide)]
      have sa := sizA_non hr
      have e : (t : Int) + (1 + (sizB (inn a) : Nat)) = ((t + sizA a : Nat) : Int) := by rw [sa]; simp [Int.natCast_add]
      rw [e]
      exact k _ _ ⟨r, _, _, _, rfl, rfl, rfl, or_, by omega, by omega⟩
  · rintro _ _ ⟨b2, t, a2, a3, hl, rfl, rfl, ok2, dp2, ln⟩
    obtain rfl := encs_nil hl
    try simp only [u_asg, u_gN, u_ret, u_retN, u_skip, u_expr, u_ifs, u_c, u_op, u_neg, u_test, u_and, u_or, u_not, u_if, u_nil, u_cons, u_tup, u_lst, u_callP, u_call, u_b, u_chain, u_andV, u_addI, u_subI, u_mulI, u_divI, u_modI, u_powI, u_cmpI, u_eqI, u_eqS, u_eqB, u_abs, u_intI, u_intB, u_newT, u_newF, u_isN, u_notN, wVar, List.set_cons_zero, List.set_cons_succ, List.getElem?_cons_zero, List.getElem?_cons_succ, List.length_cons, List.length_nil, u_lc, u_for, u_r1, u_r2, u_r3, u_num, u_notV, u_yes, u_w0, u_w1, u_dput, u_get2, u_dget, u_prop, u_fld, u_setF, u_make, u_makeS, u_met, u_calO, u_orT, u_tupIt, u_dc, u_maxDd, u_dnew, u_tupi, ix_p0, ix_p1, wSl, woNone, woSome]
    rw [sizB, Nat.add_zero] at ln
    rw [ln]
    exact fin_of q
theorem p_bytes_in (z : Ad) (n : Nat) : ∀ ds h Q X, S_bytes_in z (n + 1) ds h Q X → w_bytes_in z n (endsD Q X) (startD 3 ds) h := by
  rintro ds h Q X ⟨b, rfl, ok, dp, q⟩
  show w_bytes_in z n (endsD Q X) [some (.tup (encs b)), none, none] h
  unfold w_bytes_in
  ((try dsimp only); rw [u_seq]; (try simp only [u_asg, u_gN, u_ret, u_retN, u_skip, u_expr, u_ifs, u_c, u_op, u_neg, u_test, u_and, u_or, u_not, u_if, u_nil, u_cons, u_tup, u_lst, u_callP, u_call, u_b, u_chain, u_andV, u_addI, u_subI, u_mulI, u_divI, u_modI, u_powI, u_cmpI, u_eqI, u_eqS, u_eqB, u_abs, u_intI, u_intB, u_newT, u_newF, u_isN, u_notN, wVar, List.set_cons_zero, List.set_cons_succ, List.getElem?_cons_zero, List.getElem?_cons_succ, List.length_cons, List.length_nil, u_lc, u_for, u_r1, u_r2, u_r3, u_num, u_notV, u_yes, u_w0, u_w1, u_dput, u_get2, u_dget, u_prop, u_fld, u_setF, u_make, u_makeS, u_met, u_calO, u_orT, u_tupIt, u_dc, u_maxDd, u_dnew, u_tupi, ix_p0, ix_p1, wSl, woNone, woSome]))
  ((try dsimp only); rw [u_seq]; (try simp only [u_asg, u_gN, u_ret, u_retN, u_skip, u_expr, u_ifs, u_c, u_op, u_neg, u_test, u_and, u_or, u_not, u_if, u_nil, u_cons, u_tup, u_lst, u_callP, u_call, u_b, u_chain, u_andV, u_addI, u_subI, u_mulI, u_divI, u_modI, u_powI, u_cmpI, u_eqI, u_eqS, u_eqB, u_abs, u_intI, u_intB, u_newT, u_newF, u_isN, u_notN, wVar, List.set_cons_zero, List.set_cons_succ, List.getElem?_cons_zero, List.getElem?_cons_succ, List.length_cons, List.length_nil, u_lc, u_for, u_r1, u_r2, u_r3, u_num, u_notV, u_yes, u_w0, u_w1, u_dput, u_get2, u_dget, u_prop, u_fld, u_setF, u_make, u_makeS, u_met, u_calO, u_orT, u_tupIt, u_dc, u_maxDd, u_dnew, u_tupi, ix_p0, ix_p1, wSl, woNone, woSome]))
  refine loop_rest (fun l ρ h' => ∃ b2 t a2, l = encs b2 ∧ ρ = [some (.tup (encs b)), some (.int ((t : Nat) : Int)), a2] ∧ h = h' ∧ okB b2 = true ∧ dptB b2 ≤ dptB b ∧ t + bynB b2 = bynB b) (fun _ _ _ _ => trivial) ?_ ?_ _ _ _
    ⟨b, 0, _, rfl, rfl, rfl, ok, Nat.le_refl _, Nat.zero_add _⟩
  · rintro x l _ _ K ⟨b2, t, a2, hl, rfl, rfl, ok2, dp2, ln⟩ k
    obtain ⟨a, r, rfl, rfl, rfl⟩ := encs_cons hl
    obtain ⟨oa, or_⟩ := okB_cons ok2
    rw [dptB] at dp2
    rw [bynB] at ln
    rw [u_gN]
    dsimp only [List.set_cons_zero, List.set_cons_succ]
    try simp only [u_asg, u_gN, u_ret, u_retN, u_skip, u_expr, u_ifs, u_c, u_op, u_neg, u_test, u_and, u_or, u_not, u_if, u_nil, u_cons, u_tup, u_lst, u_callP, u_call, u_b, u_chain, u_andV, u_addI, u_subI, u_mulI, u_divI, u_modI, u_powI, u_cmpI, u_eqI, u_eqS, u_eqB, u_abs, u_intI, u_intB, u_newT, u_newF, u_isN, u_notN, wVar, List.set_cons_zero, List.set_cons_succ, List.getElem?_cons_zero, List.getElem?_cons_succ, List.length_cons, List.length_nil, u_lc, u_for, u_r1, u_r2, u_r3, u_num, u_notV, u_yes, u_w0, u_w1, u_dput, u_get2, u_dget, u_prop, u_fld, u_setF, u_make, u_makeS, u_met, u_calO, u_orT, u_tupIt, u_dc, u_maxDd, u_dnew, u_tupi, ix_p0, ix_p1, wSl, woNone, woSome]
    rw [ix_word]
    try simp only [u_asg, u_gN, u_ret, u_retN, u_skip, u_expr, u_ifs, u_c, u_op, u_neg, u_test, u_and, u_or, u_not, u_if, u_nil, u_cons, u_tup, u_lst, u_callP, u_call, u_b, u_chain, u_andV, u_addI, u_subI, u_mulI, u_divI, u_modI, u_powI, u_cmpI, u_eqI, u_eqS, u_eqB, u_abs, u_intI, u_intB, u_newT, u_newF, u_isN, u_notN, wVar, List.set_cons_zero, List.set_cons_succ, List.getElem?_cons_zero, List.getElem?_cons_succ, List.length_cons, List.length_nil, u_lc, u_for, u_r1, u_r2, u_r3, u_num, u_notV, u_yes, u_w0, u_w1, u_dput, u_get2, u_dget, u_prop, u_fld, u_setF, u_make, u_makeS, u_met, u_calO, u_orT, u_tupIt, u_dc, u_maxDd, u_dnew, u_tupi, ix_p0, ix_p1, wSl, woNone, woSome]
    by_cases hr : word a = "repeat"
    · rw [if_pos (decide_eq_true hr)]
      obtain ⟨m, c, rfl⟩ := (word_rep oa).mp hr
      have om := oa
      rw [okA, Bool.and_eq_true, decide_eq_true_iff] at om
      rw [ix_rep1]
      rw [ix_rep2]
      rw [dptA] at dp2
      refine ⟨trivial, c, rfl, om.2, by omega, ?_⟩
      try simp only [u_asg, u_gN, u_ret, u_retN, u_skip, u_expr, u_ifs, u_c, u_op, u_neg, u_test, u_and, u_or, u_not, u_if, u_nil, u_cons, u_tup, u_lst, u_callP, u_call, u_b, u_chain, u_andV, u_addI, u_subI, u_mulI, u_divI, u_modI, u_powI, u_cmpI, u_eqI, u_eqS, u_eqB, u_abs, u_intI, u_intB, u_newT, u_newF, u_isN, u_notN, wVar, List.set_cons_zero, List.set_cons_succ, List.getElem?_cons_zero, List.getElem?_cons_succ, List.length_cons, List.length_nil, u_lc, u_for, u_r1, u_r2, u_r3, u_num, u_notV, u_yes, u_w0, u_w1, u_dput, u_get2, u_dget, u_prop, u_fld, u_setF, u_make, u_makeS, u_met, u_calO, u_orT, u_tupIt, u_dc, u_maxDd, u_dnew, u_tupi, ix_p0, ix_p1, wSl, woNone, woSome]
      have e : (t : Int) + (m : Int) * (bynB c : Nat) = ((t + bynA (.rep m c) : Nat) : Int) := by rw [bynA]; simp [Int.natCast_add]
      rw [e]
      exact ⟨big_mul om.1, k _ _ ⟨r, _, _, rfl, rfl, rfl, or_, by omega, by omega⟩⟩
    · rw [if_neg (by rw [decide_eq_false hr]; decide)]
      refine ⟨trivial, go_byt oa ?_⟩
      try simp only [u_asg, u_gN, u_ret, u_retN, u_skip, u_expr, u_ifs, u_c, u_op, u_neg, u_test, u_and, u_or, u_not, u_if, u_nil, u_cons, u_tup, u_lst, u_callP, u_call, u_b, u_chain, u_andV, u_addI, u_subI, u_mulI, u_divI, u_modI, u_powI, u_cmpI, u_eqI, u_eqS, u_eqB, u_abs, u_intI, u_intB, u_newT, u_newF, u_isN, u_notN, wVar, List.set_cons_zero, List.set_cons_succ, List.getElem?_cons_zero, List.getElem?_cons_succ, List.length_cons, List.length_nil, u_lc, u_for, u_r1, u_r2, u_r3, u_num, u_notV, u_yes, u_w0, u_w1, u_dput, u_get2, u_dget, u_prop, u_fld, u_setF, u_make, u_makeS, u_met, u_calO, u_orT, u_tupIt, u_dc, u_maxDd, u_dnew, u_tupi, ix_p0, ix_p1, wSl, woNone, woSome]
      have e : (t : Int) + (byt a : Nat) = ((t + bynA a : Nat) : Int) := by rw [bynA_non hr]; simp [Int.natCast_add]
      rw [e]
      exact k _ _ ⟨r, _, _, rfl, rfl, rfl, or_, by omega, by omega⟩
  · rintro _ _ ⟨b2, t, a2, hl, rfl, rfl, ok2, dp2, ln⟩
    obtain rfl := encs_nil hl
    try simp only [u_asg, u_gN, u_ret, u_retN, u_skip, u_expr, u_ifs, u_c, u_op, u_neg, u_test, u_and, u_or, u_not, u_if, u_nil, u_cons, u_tup, u_lst, u_callP, u_call, u_b, u_chain, u_andV, u_addI, u_subI, u_mulI, u_divI, u_modI, u_powI, u_cmpI, u_eqI, u_eqS, u_eqB, u_abs, u_intI, u_intB, u_newT, u_newF, u_isN, u_notN, wVar, List.set_cons_zero, List.set_cons_succ, List.getElem?_cons_zero, List.getElem?_cons_succ, List.length_cons, List.length_nil, u_lc, u_for, u_r1, u_r2, u_r3, u_num, u_notV, u_yes, u_w0, u_w1, u_dput, u_get2, u_dget, u_prop, u_fld, u_setF, u_make, u_makeS, u_met, u_calO, u_orT, u_tupIt, u_dc, u_maxDd, u_dnew, u_tupi, ix_p0, ix_p1, wSl, woNone, woSome]
    rw [bynB, Nat.add_zero] at ln
    rw [ln]
    exact fin_of q
theorem go_max {x y : Nat} {h : AH} {Q : KD} (q : Q (.int ((max x y : Nat) : Int)) h) : dMax2 [.int x, .int y] h Q := by
  show Q (.int (if (y : Int) > x then (y : Int) else x)) h
  rw [show (if (y : Int) > x then (y : Int) else x) = ((max x y : Nat) : Int) by split <;> omega]
  exact q
theorem p_reach_in (z : Ad) (n : Nat) : ∀ ds h Q X, S_reach_in z (n + 1) ds h Q X → w_reach_in z n (endsD Q X) (startD 5 ds) h := by
  rintro ds h Q X ⟨b, rfl, ok, dp, d12, q⟩
  show w_reach_in z n (endsD Q X) [some (.tup (encs b)), none, none, none, none] h
  unfold w_reach_in
  ((try dsimp only); rw [u_seq]; (try simp only [u_asg, u_gN, u_ret, u_retN, u_skip, u_expr, u_ifs, u_c, u_op, u_neg, u_test, u_and, u_or, u_not, u_if, u_nil, u_cons, u_tup, u_lst, u_callP, u_call, u_b, u_chain, u_andV, u_addI, u_subI, u_mulI, u_divI, u_modI, u_powI, u_cmpI, u_eqI, u_eqS, u_eqB, u_abs, u_intI, u_intB, u_newT, u_newF, u_isN, u_notN, wVar, List.set_cons_zero, List.set_cons_succ, List.getElem?_cons_zero, List.getElem?_cons_succ, List.length_cons, List.length_nil, u_lc, u_for, u_r1, u_r2, u_r3, u_num, u_notV, u_yes, u_w0, u_w1, u_dput, u_get2, u_dget, u_prop, u_fld, u_setF, u_make, u_makeS, u_met, u_calO, u_orT, u_tupIt, u_dc, u_maxDd, u_dnew, u_tupi, ix_p0, ix_p1, wSl, woNone, woSome]))
  ((try dsimp only); rw [u_seq]; (try simp only [u_asg, u_gN, u_ret, u_retN, u_skip, u_expr, u_ifs, u_c, u_op, u_neg, u_test, u_and, u_or, u_not, u_if, u_nil, u_cons, u_tup, u_lst, u_callP, u_call, u_b, u_chain, u_andV, u_addI, u_subI, u_mulI, u_divI, u_modI, u_powI, u_cmpI, u_eqI, u_eqS, u_eqB, u_abs, u_intI, u_intB, u_newT, u_newF, u_isN, u_notN, wVar, List.set_cons_zero, List.set_cons_succ, List.getElem?_cons_zero, List.getElem?_cons_succ, List.length_cons, List.length_nil, u_lc, u_for, u_r1, u_r2, u_r3, u_num, u_notV, u_yes, u_w0, u_w1, u_dput, u_get2, u_dget, u_prop, u_fld, u_setF, u_make, u_makeS, u_met, u_calO, u_orT, u_tupIt, u_dc, u_maxDd, u_dnew, u_tupi, ix_p0, ix_p1, wSl, woNone, woSome]))
  ((try dsimp only); rw [u_seq]; (try simp only [u_asg, u_gN, u_ret, u_retN, u_skip, u_expr, u_ifs, u_c, u_op, u_neg, u_test, u_and, u_or, u_not, u_if, u_nil, u_cons, u_tup, u_lst, u_callP, u_call, u_b, u_chain, u_andV, u_addI, u_subI, u_mulI, u_divI, u_modI, u_powI, u_cmpI, u_eqI, u_eqS, u_eqB, u_abs, u_intI, u_intB, u_newT, u_newF, u_isN, u_notN, wVar, List.set_cons_zero, List.set_cons_succ, List.getElem?_cons_zero, List.getElem?_cons_succ, List.length_cons, List.length_nil, u_lc, u_for, u_r1, u_r2, u_r3, u_num, u_notV, u_yes, u_w0, u_w1, u_dput, u_get2, u_dget, u_prop, u_fld, u_setF, u_make, u_makeS, u_met, u_calO, u_orT, u_tupIt, u_dc, u_maxDd, u_dnew, u_tupi, ix_p0, ix_p1, wSl, woNone, woSome]))
  refine loop_rest (fun l ρ h' => ∃ b2 t m a3 a4, l = encs b2 ∧ ρ = [some (.tup (encs b)), some (.int ((t : Nat) : Int)), some (.int ((m : Nat) : Int)), a3, a4] ∧ h = h' ∧ okB b2 = true ∧ dptB b2 ≤ dptB b ∧ rchL b2 t m = rchB b) (fun _ _ _ _ => trivial) ?_ ?_ _ _ _
    ⟨b, 0, 0, _, _, rfl, rfl, rfl, ok, Nat.le_refl _, rfl⟩
  · rintro x l _ _ K ⟨b2, t, m, a3, a4, hl, rfl, rfl, ok2, dp2, ln⟩ k
    obtain ⟨a, r, rfl, rfl, rfl⟩ := encs_cons hl
    obtain ⟨oa, or_⟩ := okB_cons ok2
    rw [dptB] at dp2
    rw [rchL] at ln
    rw [u_gN]
    dsimp only [List.set_cons_zero, List.set_cons_succ]
    try simp only [u_asg, u_gN, u_ret, u_retN, u_skip, u_expr, u_ifs, u_c, u_op, u_neg, u_test, u_and, u_or, u_not, u_if, u_nil, u_cons, u_tup, u_lst, u_callP, u_call, u_b, u_chain, u_andV, u_addI, u_subI, u_mulI, u_divI, u_modI, u_powI, u_cmpI, u_eqI, u_eqS, u_eqB, u_abs, u_intI, u_intB, u_newT, u_newF, u_isN, u_notN, wVar, List.set_cons_zero, List.set_cons_succ, List.getElem?_cons_zero, List.getElem?_cons_succ, List.length_cons, List.length_nil, u_lc, u_for, u_r1, u_r2, u_r3, u_num, u_notV, u_yes, u_w0, u_w1, u_dput, u_get2, u_dget, u_prop, u_fld, u_setF, u_make, u_makeS, u_met, u_calO, u_orT, u_tupIt, u_dc, u_maxDd, u_dnew, u_tupi, ix_p0, ix_p1, wSl, woNone, woSome]
    rw [ix_word]
    try simp only [u_asg, u_gN, u_ret, u_retN, u_skip, u_expr, u_ifs, u_c, u_op, u_neg, u_test, u_and, u_or, u_not, u_if, u_nil, u_cons, u_tup, u_lst, u_callP, u_call, u_b, u_chain, u_andV, u_addI, u_subI, u_mulI, u_divI, u_modI, u_powI, u_cmpI, u_eqI, u_eqS, u_eqB, u_abs, u_intI, u_intB, u_newT, u_newF, u_isN, u_notN, wVar, List.set_cons_zero, List.set_cons_succ, List.getElem?_cons_zero, List.getElem?_cons_succ, List.length_cons, List.length_nil, u_lc, u_for, u_r1, u_r2, u_r3, u_num, u_notV, u_yes, u_w0, u_w1, u_dput, u_get2, u_dget, u_prop, u_fld, u_setF, u_make, u_makeS, u_met, u_calO, u_orT, u_tupIt, u_dc, u_maxDd, u_dnew, u_tupi, ix_p0, ix_p1, wSl, woNone, woSome]
    by_cases hf : word a = "fork"
    · rw [if_pos (decide_eq_true hf)]
      obtain ⟨c, rfl⟩ := (word_fork oa).mp hf
      rw [okA] at oa
      rw [dptA] at dp2
      rw [ix_fork1]
      refine ⟨trivial, c, rfl, oa, by omega, by omega, ?_⟩
      try simp only [u_asg, u_gN, u_ret, u_retN, u_skip, u_expr, u_ifs, u_c, u_op, u_neg, u_test, u_and, u_or, u_not, u_if, u_nil, u_cons, u_tup, u_lst, u_callP, u_call, u_b, u_chain, u_andV, u_addI, u_subI, u_mulI, u_divI, u_modI, u_powI, u_cmpI, u_eqI, u_eqS, u_eqB, u_abs, u_intI, u_intB, u_newT, u_newF, u_isN, u_notN, wVar, List.set_cons_zero, List.set_cons_succ, List.getElem?_cons_zero, List.getElem?_cons_succ, List.length_cons, List.length_nil, u_lc, u_for, u_r1, u_r2, u_r3, u_num, u_notV, u_yes, u_w0, u_w1, u_dput, u_get2, u_dget, u_prop, u_fld, u_setF, u_make, u_makeS, u_met, u_calO, u_orT, u_tupIt, u_dc, u_maxDd, u_dnew, u_tupi, ix_p0, ix_p1, wSl, woNone, woSome]
      have e : (t : Int) + (rchB c : Nat) = ((t + rchB c : Nat) : Int) := by omega
      rw [e]
      refine go_max (k _ _ ⟨r, t, _, _, _, rfl, rfl, rfl, or_, by omega, ?_⟩)
      rw [← ln, rchA, bynA]; rfl
    · rw [if_neg (by rw [decide_eq_false hf]; decide)]
      rw [ix_word]
      try simp only [u_asg, u_gN, u_ret, u_retN, u_skip, u_expr, u_ifs, u_c, u_op, u_neg, u_test, u_and, u_or, u_not, u_if, u_nil, u_cons, u_tup, u_lst, u_callP, u_call, u_b, u_chain, u_andV, u_addI, u_subI, u_mulI, u_divI, u_modI, u_powI, u_cmpI, u_eqI, u_eqS, u_eqB, u_abs, u_intI, u_intB, u_newT, u_newF, u_isN, u_notN, wVar, List.set_cons_zero, List.set_cons_succ, List.getElem?_cons_zero, List.getElem?_cons_succ, List.length_cons, List.length_nil, u_lc, u_for, u_r1, u_r2, u_r3, u_num, u_notV, u_yes, u_w0, u_w1, u_dput, u_get2, u_dget, u_prop, u_fld, u_setF, u_make, u_makeS, u_met, u_calO, u_orT, u_tupIt, u_dc, u_maxDd, u_dnew, u_tupi, ix_p0, ix_p1, wSl, woNone, woSome]
      have other : word a ≠ "repeat" → K [some (.tup (encs b)), some (.int ((t + byt a : Nat) : Int)), some (.int (m : Nat)), some (enc a), a4] h := fun hr => by
        refine k _ _ ⟨r, _, _, _, _, rfl, rfl, rfl, or_, by omega, ?_⟩
        rw [← ln, bynA_non hr]
        cases a with
        | bare w => rw [rchA]
        | write i => rw [rchA]
        | fork c => exact absurd rfl hf
        | rep i c => exact absurd rfl hr
      by_cases hr : word a = "repeat"
      · rw [if_pos (decide_eq_true hr)]
        obtain ⟨i, c, rfl⟩ := (word_rep oa).mp hr
        have om := oa
        rw [okA, Bool.and_eq_true, decide_eq_true_iff] at om
        rw [dptA] at dp2
        rw [ix_rep1]
        try simp only [u_asg, u_gN, u_ret, u_retN, u_skip, u_expr, u_ifs, u_c, u_op, u_neg, u_test, u_and, u_or, u_not, u_if, u_nil, u_cons, u_tup, u_lst, u_callP, u_call, u_b, u_chain, u_andV, u_addI, u_subI, u_mulI, u_divI, u_modI, u_powI, u_cmpI, u_eqI, u_eqS, u_eqB, u_abs, u_intI, u_intB, u_newT, u_newF, u_isN, u_notN, wVar, List.set_cons_zero, List.set_cons_succ, List.getElem?_cons_zero, List.getElem?_cons_succ, List.length_cons, List.length_nil, u_lc, u_for, u_r1, u_r2, u_r3, u_num, u_notV, u_yes, u_w0, u_w1, u_dput, u_get2, u_dget, u_prop, u_fld, u_setF, u_make, u_makeS, u_met, u_calO, u_orT, u_tupIt, u_dc, u_maxDd, u_dnew, u_tupi, ix_p0, ix_p1, wSl, woNone, woSome]
        rw [rchA] at ln
        by_cases ci : i = 0
        · rw [if_neg (by rw [decide_eq_false (by omega)]; decide)]
          refine ⟨trivial, go_byt oa ?_⟩
          try simp only [u_asg, u_gN, u_ret, u_retN, u_skip, u_expr, u_ifs, u_c, u_op, u_neg, u_test, u_and, u_or, u_not, u_if, u_nil, u_cons, u_tup, u_lst, u_callP, u_call, u_b, u_chain, u_andV, u_addI, u_subI, u_mulI, u_divI, u_modI, u_powI, u_cmpI, u_eqI, u_eqS, u_eqB, u_abs, u_intI, u_intB, u_newT, u_newF, u_isN, u_notN, wVar, List.set_cons_zero, List.set_cons_succ, List.getElem?_cons_zero, List.getElem?_cons_succ, List.length_cons, List.length_nil, u_lc, u_for, u_r1, u_r2, u_r3, u_num, u_notV, u_yes, u_w0, u_w1, u_dput, u_get2, u_dget, u_prop, u_fld, u_setF, u_make, u_makeS, u_met, u_calO, u_orT, u_tupIt, u_dc, u_maxDd, u_dnew, u_tupi, ix_p0, ix_p1, wSl, woNone, woSome]
          have e0 : (t : Int) + ((byt (.rep i c) : Nat) : Int) = (t : Int) := by rw [byt]; simp
          rw [e0]
          refine k _ _ ⟨r, t, m, _, _, rfl, rfl, rfl, or_, by omega, ?_⟩
          rw [if_pos ci] at ln
          rw [← ln, bynA, ci, Nat.zero_mul, Nat.add_zero]
        · rw [if_pos (decide_eq_true (by omega))]
          rw [if_neg ci] at ln
          ((try dsimp only); rw [u_seq]; (try simp only [u_asg, u_gN, u_ret, u_retN, u_skip, u_expr, u_ifs, u_c, u_op, u_neg, u_test, u_and, u_or, u_not, u_if, u_nil, u_cons, u_tup, u_lst, u_callP, u_call, u_b, u_chain, u_andV, u_addI, u_subI, u_mulI, u_divI, u_modI, u_powI, u_cmpI, u_eqI, u_eqS, u_eqB, u_abs, u_intI, u_intB, u_newT, u_newF, u_isN, u_notN, wVar, List.set_cons_zero, List.set_cons_succ, List.getElem?_cons_zero, List.getElem?_cons_succ, List.length_cons, List.length_nil, u_lc, u_for, u_r1, u_r2, u_r3, u_num, u_notV, u_yes, u_w0, u_w1, u_dput, u_get2, u_dget, u_prop, u_fld, u_setF, u_make, u_makeS, u_met, u_calO, u_orT, u_tupIt, u_dc, u_maxDd, u_dnew, u_tupi, ix_p0, ix_p1, wSl, woNone, woSome]))
          rw [ix_rep2]
          refine ⟨trivial, c, rfl, om.2, by omega, ?_⟩
          ((try dsimp only); rw [u_seq]; (try simp only [u_asg, u_gN, u_ret, u_retN, u_skip, u_expr, u_ifs, u_c, u_op, u_neg, u_test, u_and, u_or, u_not, u_if, u_nil, u_cons, u_tup, u_lst, u_callP, u_call, u_b, u_chain, u_andV, u_addI, u_subI, u_mulI, u_divI, u_modI, u_powI, u_cmpI, u_eqI, u_eqS, u_eqB, u_abs, u_intI, u_intB, u_newT, u_newF, u_isN, u_notN, wVar, List.set_cons_zero, List.set_cons_succ, List.getElem?_cons_zero, List.getElem?_cons_succ, List.length_cons, List.length_nil, u_lc, u_for, u_r1, u_r2, u_r3, u_num, u_notV, u_yes, u_w0, u_w1, u_dput, u_get2, u_dget, u_prop, u_fld, u_setF, u_make, u_makeS, u_met, u_calO, u_orT, u_tupIt, u_dc, u_maxDd, u_dnew, u_tupi, ix_p0, ix_p1, wSl, woNone, woSome]))
          rw [ix_rep1]
          try simp only [u_asg, u_gN, u_ret, u_retN, u_skip, u_expr, u_ifs, u_c, u_op, u_neg, u_test, u_and, u_or, u_not, u_if, u_nil, u_cons, u_tup, u_lst, u_callP, u_call, u_b, u_chain, u_andV, u_addI, u_subI, u_mulI, u_divI, u_modI, u_powI, u_cmpI, u_eqI, u_eqS, u_eqB, u_abs, u_intI, u_intB, u_newT, u_newF, u_isN, u_notN, wVar, List.set_cons_zero, List.set_cons_succ, List.getElem?_cons_zero, List.getElem?_cons_succ, List.length_cons, List.length_nil, u_lc, u_for, u_r1, u_r2, u_r3, u_num, u_notV, u_yes, u_w0, u_w1, u_dput, u_get2, u_dget, u_prop, u_fld, u_setF, u_make, u_makeS, u_met, u_calO, u_orT, u_tupIt, u_dc, u_maxDd, u_dnew, u_tupi, ix_p0, ix_p1, wSl, woNone, woSome]
          refine ⟨.inl ⟨by omega, by omega⟩, ?_⟩
          rw [ix_rep2]
          refine ⟨trivial, c, rfl, om.2, by omega, by omega, ?_⟩
          try simp only [u_asg, u_gN, u_ret, u_retN, u_skip, u_expr, u_ifs, u_c, u_op, u_neg, u_test, u_and, u_or, u_not, u_if, u_nil, u_cons, u_tup, u_lst, u_callP, u_call, u_b, u_chain, u_andV, u_addI, u_subI, u_mulI, u_divI, u_modI, u_powI, u_cmpI, u_eqI, u_eqS, u_eqB, u_abs, u_intI, u_intB, u_newT, u_newF, u_isN, u_notN, wVar, List.set_cons_zero, List.set_cons_succ, List.getElem?_cons_zero, List.getElem?_cons_succ, List.length_cons, List.length_nil, u_lc, u_for, u_r1, u_r2, u_r3, u_num, u_notV, u_yes, u_w0, u_w1, u_dput, u_get2, u_dget, u_prop, u_fld, u_setF, u_make, u_makeS, u_met, u_calO, u_orT, u_tupIt, u_dc, u_maxDd, u_dnew, u_tupi, ix_p0, ix_p1, wSl, woNone, woSome]
          have e1 : (t : Int) + ((i : Int) - 1) * (bynB c : Nat) + (rchB c : Nat) = ((t + (i - 1) * bynB c + rchB c : Nat) : Int) := by
            rw [show ((i : Int) - 1) = ((i - 1 : Nat) : Int) by omega]; simp [Int.natCast_add]
          rw [e1]
          refine go_max ?_
          try simp only [u_asg, u_gN, u_ret, u_retN, u_skip, u_expr, u_ifs, u_c, u_op, u_neg, u_test, u_and, u_or, u_not, u_if, u_nil, u_cons, u_tup, u_lst, u_callP, u_call, u_b, u_chain, u_andV, u_addI, u_subI, u_mulI, u_divI, u_modI, u_powI, u_cmpI, u_eqI, u_eqS, u_eqB, u_abs, u_intI, u_intB, u_newT, u_newF, u_isN, u_notN, wVar, List.set_cons_zero, List.set_cons_succ, List.getElem?_cons_zero, List.getElem?_cons_succ, List.length_cons, List.length_nil, u_lc, u_for, u_r1, u_r2, u_r3, u_num, u_notV, u_yes, u_w0, u_w1, u_dput, u_get2, u_dget, u_prop, u_fld, u_setF, u_make, u_makeS, u_met, u_calO, u_orT, u_tupIt, u_dc, u_maxDd, u_dnew, u_tupi, ix_p0, ix_p1, wSl, woNone, woSome]
          rw [ix_rep1]
          try simp only [u_asg, u_gN, u_ret, u_retN, u_skip, u_expr, u_ifs, u_c, u_op, u_neg, u_test, u_and, u_or, u_not, u_if, u_nil, u_cons, u_tup, u_lst, u_callP, u_call, u_b, u_chain, u_andV, u_addI, u_subI, u_mulI, u_divI, u_modI, u_powI, u_cmpI, u_eqI, u_eqS, u_eqB, u_abs, u_intI, u_intB, u_newT, u_newF, u_isN, u_notN, wVar, List.set_cons_zero, List.set_cons_succ, List.getElem?_cons_zero, List.getElem?_cons_succ, List.length_cons, List.length_nil, u_lc, u_for, u_r1, u_r2, u_r3, u_num, u_notV, u_yes, u_w0, u_w1, u_dput, u_get2, u_dget, u_prop, u_fld, u_setF, u_make, u_makeS, u_met, u_calO, u_orT, u_tupIt, u_dc, u_maxDd, u_dnew, u_tupi, ix_p0, ix_p1, wSl, woNone, woSome]
          have e2 : (t : Int) + (i : Int) * (bynB c : Nat) = ((t + bynA (.rep i c) : Nat) : Int) := by rw [bynA]; simp [Int.natCast_add]
          rw [e2]
          exact ⟨big_mul om.1, k _ _ ⟨r, _, _, _, _, rfl, rfl, rfl, or_, by omega, by rw [← ln]; rfl⟩⟩
      · rw [if_neg (by rw [decide_eq_false hr]; decide)]
        refine ⟨trivial, go_byt oa ?_⟩
        try simp only [u_asg, u_gN, u_ret, u_retN, u_skip, u_expr, u_ifs, u_c, u_op, u_neg, u_test, u_and, u_or, u_not, u_if, u_nil, u_cons, u_tup, u_lst, u_callP, u_call, u_b, u_chain, u_andV, u_addI, u_subI, u_mulI, u_divI, u_modI, u_powI, u_cmpI, u_eqI, u_eqS, u_eqB, u_abs, u_intI, u_intB, u_newT, u_newF, u_isN, u_notN, wVar, List.set_cons_zero, List.set_cons_succ, List.getElem?_cons_zero, List.getElem?_cons_succ, List.length_cons, List.length_nil, u_lc, u_for, u_r1, u_r2, u_r3, u_num, u_notV, u_yes, u_w0, u_w1, u_dput, u_get2, u_dget, u_prop, u_fld, u_setF, u_make, u_makeS, u_met, u_calO, u_orT, u_tupIt, u_dc, u_maxDd, u_dnew, u_tupi, ix_p0, ix_p1, wSl, woNone, woSome]
        have e : (t : Int) + (byt a : Nat) = ((t + byt a : Nat) : Int) := by omega
        rw [e]
        exact other hr
  · rintro _ _ ⟨b2, t, m, a3, a4, hl, rfl, rfl, ok2, dp2, ln⟩
    obtain rfl := encs_nil hl
    try simp only [u_asg, u_gN, u_ret, u_retN, u_skip, u_expr, u_ifs, u_c, u_op, u_neg, u_test, u_and, u_or, u_not, u_if, u_nil, u_cons, u_tup, u_lst, u_callP, u_call, u_b, u_chain, u_andV, u_addI, u_subI, u_mulI, u_divI, u_modI, u_powI, u_cmpI, u_eqI, u_eqS, u_eqB, u_abs, u_intI, u_intB, u_newT, u_newF, u_isN, u_notN, wVar, List.set_cons_zero, List.set_cons_succ, List.getElem?_cons_zero, List.getElem?_cons_succ, List.length_cons, List.length_nil, u_lc, u_for, u_r1, u_r2, u_r3, u_num, u_notV, u_yes, u_w0, u_w1, u_dput, u_get2, u_dget, u_prop, u_fld, u_setF, u_make, u_makeS, u_met, u_calO, u_orT, u_tupIt, u_dc, u_maxDd, u_dnew, u_tupi, ix_p0, ix_p1, wSl, woNone, woSome]
    refine go_max (fin_of ?_)
    rw [rchL] at ln
    rw [ln]
    exact q
end PK
namespace PK
open PySem PySem.Spec L2 C8 DL
end PK
namespace PK
open PySem PySem.Spec L2 C8 DL
section
variable {z : Ad} {lm : Bool} {b : List Ac} {g : AH} {Q : KD} {X : KX} {ρ : EnvD} {i : Nat}
/-- the field of a program of either class -/
theorem go_held (e : ρ[i]? = some (some (prog z lm b))) (q : Q (.tup (encs b)) g) : wOrE (wFld z.Program "held" (wVar i)) (wFld z.LineProgram "held" (wVar i)) ρ g Q X := by
  cases lm with
  | false => exact .inl (by rw [u_fld, u_var e]; exact ⟨_, _, rfl, rfl, q⟩)
  | true => exact .inr (by rw [u_fld, u_var e]; exact ⟨_, _, rfl, rfl, q⟩)
end
theorem p_Program___init__ (z : Ad) : ∀ ds h Q X, S_Program___init__ z ds h Q X → w_Program___init__ z (endsD Q X) (startD 5 ds) h := by
  rintro ds h Q X ⟨lm, a, b, rfl, ha, f, q⟩
  show w_Program___init__ z (endsD Q X) [some (.ref a), some (.tup (encs b)), none, none, none] h
  have d := f.dpt
  have s1 := f.siz
  have s2 := f.rch
  unfold w_Program___init__
  ((try dsimp only); rw [u_seq]; (try simp only [u_asg, u_gN, u_ret, u_retN, u_skip, u_expr, u_ifs, u_c, u_op, u_neg, u_test, u_and, u_or, u_not, u_if, u_nil, u_cons, u_tup, u_lst, u_callP, u_call, u_b, u_chain, u_andV, u_addI, u_subI, u_mulI, u_divI, u_modI, u_powI, u_cmpI, u_eqI, u_eqS, u_eqB, u_abs, u_intI, u_intB, u_newT, u_newF, u_isN, u_notN, wVar, List.set_cons_zero, List.set_cons_succ, List.getElem?_cons_zero, List.getElem?_cons_succ, List.length_cons, List.length_nil, u_lc, u_for, u_r1, u_r2, u_r3, u_num, u_notV, u_yes, u_w0, u_w1, u_dput, u_get2, u_dget, u_prop, u_fld, u_setF, u_make, u_makeS, u_met, u_calO, u_orT, u_tupIt, u_dc, u_maxDd, u_dnew, u_tupi, ix_p0, ix_p1, wSl, woNone, woSome]))
  refine ⟨trivial, b, rfl, f, ?_⟩
  ((try dsimp only); rw [u_seq]; (try simp only [u_asg, u_gN, u_ret, u_retN, u_skip, u_expr, u_ifs, u_c, u_op, u_neg, u_test, u_and, u_or, u_not, u_if, u_nil, u_cons, u_tup, u_lst, u_callP, u_call, u_b, u_chain, u_andV, u_addI, u_subI, u_mulI, u_divI, u_modI, u_powI, u_cmpI, u_eqI, u_eqS, u_eqB, u_abs, u_intI, u_intB, u_newT, u_newF, u_isN, u_notN, wVar, List.set_cons_zero, List.set_cons_succ, List.getElem?_cons_zero, List.getElem?_cons_succ, List.length_cons, List.length_nil, u_lc, u_for, u_r1, u_r2, u_r3, u_num, u_notV, u_yes, u_w0, u_w1, u_dput, u_get2, u_dget, u_prop, u_fld, u_setF, u_make, u_makeS, u_met, u_calO, u_orT, u_tupIt, u_dc, u_maxDd, u_dnew, u_tupi, ix_p0, ix_p1, wSl, woNone, woSome]))
  try simp only [dIsN, Bool.not_true, Bool.false_eq_true, if_false]
  ((try dsimp only); rw [u_seq]; (try simp only [u_asg, u_gN, u_ret, u_retN, u_skip, u_expr, u_ifs, u_c, u_op, u_neg, u_test, u_and, u_or, u_not, u_if, u_nil, u_cons, u_tup, u_lst, u_callP, u_call, u_b, u_chain, u_andV, u_addI, u_subI, u_mulI, u_divI, u_modI, u_powI, u_cmpI, u_eqI, u_eqS, u_eqB, u_abs, u_intI, u_intB, u_newT, u_newF, u_isN, u_notN, wVar, List.set_cons_zero, List.set_cons_succ, List.getElem?_cons_zero, List.getElem?_cons_succ, List.length_cons, List.length_nil, u_lc, u_for, u_r1, u_r2, u_r3, u_num, u_notV, u_yes, u_w0, u_w1, u_dput, u_get2, u_dget, u_prop, u_fld, u_setF, u_make, u_makeS, u_met, u_calO, u_orT, u_tupIt, u_dc, u_maxDd, u_dnew, u_tupi, ix_p0, ix_p1, wSl, woNone, woSome]))
  refine ⟨trivial, b, rfl, f.ok, by omega, ?_⟩
  ((try dsimp only); rw [u_seq]; (try simp only [u_asg, u_gN, u_ret, u_retN, u_skip, u_expr, u_ifs, u_c, u_op, u_neg, u_test, u_and, u_or, u_not, u_if, u_nil, u_cons, u_tup, u_lst, u_callP, u_call, u_b, u_chain, u_andV, u_addI, u_subI, u_mulI, u_divI, u_modI, u_powI, u_cmpI, u_eqI, u_eqS, u_eqB, u_abs, u_intI, u_intB, u_newT, u_newF, u_isN, u_notN, wVar, List.set_cons_zero, List.set_cons_succ, List.getElem?_cons_zero, List.getElem?_cons_succ, List.length_cons, List.length_nil, u_lc, u_for, u_r1, u_r2, u_r3, u_num, u_notV, u_yes, u_w0, u_w1, u_dput, u_get2, u_dget, u_prop, u_fld, u_setF, u_make, u_makeS, u_met, u_calO, u_orT, u_tupIt, u_dc, u_maxDd, u_dnew, u_tupi, ix_p0, ix_p1, wSl, woNone, woSome]))
  rw [if_neg (by rw [decide_eq_false (by omega)]; decide)]
  ((try dsimp only); rw [u_seq]; (try simp only [u_asg, u_gN, u_ret, u_retN, u_skip, u_expr, u_ifs, u_c, u_op, u_neg, u_test, u_and, u_or, u_not, u_if, u_nil, u_cons, u_tup, u_lst, u_callP, u_call, u_b, u_chain, u_andV, u_addI, u_subI, u_mulI, u_divI, u_modI, u_powI, u_cmpI, u_eqI, u_eqS, u_eqB, u_abs, u_intI, u_intB, u_newT, u_newF, u_isN, u_notN, wVar, List.set_cons_zero, List.set_cons_succ, List.getElem?_cons_zero, List.getElem?_cons_succ, List.length_cons, List.length_nil, u_lc, u_for, u_r1, u_r2, u_r3, u_num, u_notV, u_yes, u_w0, u_w1, u_dput, u_get2, u_dget, u_prop, u_fld, u_setF, u_make, u_makeS, u_met, u_calO, u_orT, u_tupIt, u_dc, u_maxDd, u_dnew, u_tupi, ix_p0, ix_p1, wSl, woNone, woSome]))
  refine ⟨trivial, b, rfl, f.ok, by omega, by omega, ?_⟩
  ((try dsimp only); rw [u_seq]; (try simp only [u_asg, u_gN, u_ret, u_retN, u_skip, u_expr, u_ifs, u_c, u_op, u_neg, u_test, u_and, u_or, u_not, u_if, u_nil, u_cons, u_tup, u_lst, u_callP, u_call, u_b, u_chain, u_andV, u_addI, u_subI, u_mulI, u_divI, u_modI, u_powI, u_cmpI, u_eqI, u_eqS, u_eqB, u_abs, u_intI, u_intB, u_newT, u_newF, u_isN, u_notN, wVar, List.set_cons_zero, List.set_cons_succ, List.getElem?_cons_zero, List.getElem?_cons_succ, List.length_cons, List.length_nil, u_lc, u_for, u_r1, u_r2, u_r3, u_num, u_notV, u_yes, u_w0, u_w1, u_dput, u_get2, u_dget, u_prop, u_fld, u_setF, u_make, u_makeS, u_met, u_calO, u_orT, u_tupIt, u_dc, u_maxDd, u_dnew, u_tupi, ix_p0, ix_p1, wSl, woNone, woSome]))
  rw [if_neg (by rw [decide_eq_false (by omega)]; decide)]
  rw [u_orS]
  cases lm with
  | false =>
    refine .inl ?_
    simp only [u_asg, u_gN, u_ret, u_retN, u_skip, u_expr, u_ifs, u_c, u_op, u_neg, u_test, u_and, u_or, u_not, u_if, u_nil, u_cons, u_tup, u_lst, u_callP, u_call, u_b, u_chain, u_andV, u_addI, u_subI, u_mulI, u_divI, u_modI, u_powI, u_cmpI, u_eqI, u_eqS, u_eqB, u_abs, u_intI, u_intB, u_newT, u_newF, u_isN, u_notN, wVar, List.set_cons_zero, List.set_cons_succ, List.getElem?_cons_zero, List.getElem?_cons_succ, List.length_cons, List.length_nil, u_lc, u_for, u_r1, u_r2, u_r3, u_num, u_notV, u_yes, u_w0, u_w1, u_dput, u_get2, u_dget, u_prop, u_fld, u_setF, u_make, u_makeS, u_met, u_calO, u_orT, u_tupIt, u_dc, u_maxDd, u_dnew, u_tupi, ix_p0, ix_p1, wSl, woNone, woSome]
    exact ⟨a, [], rfl, ha, by decide, fin_of q⟩
  | true =>
    refine .inr ?_
    simp only [u_asg, u_gN, u_ret, u_retN, u_skip, u_expr, u_ifs, u_c, u_op, u_neg, u_test, u_and, u_or, u_not, u_if, u_nil, u_cons, u_tup, u_lst, u_callP, u_call, u_b, u_chain, u_andV, u_addI, u_subI, u_mulI, u_divI, u_modI, u_powI, u_cmpI, u_eqI, u_eqS, u_eqB, u_abs, u_intI, u_intB, u_newT, u_newF, u_isN, u_notN, wVar, List.set_cons_zero, List.set_cons_succ, List.getElem?_cons_zero, List.getElem?_cons_succ, List.length_cons, List.length_nil, u_lc, u_for, u_r1, u_r2, u_r3, u_num, u_notV, u_yes, u_w0, u_w1, u_dput, u_get2, u_dget, u_prop, u_fld, u_setF, u_make, u_makeS, u_met, u_calO, u_orT, u_tupIt, u_dc, u_maxDd, u_dnew, u_tupi, ix_p0, ix_p1, wSl, woNone, woSome]
    exact ⟨a, [], rfl, ha, by decide, fin_of q⟩
/-- the making of a program, of what stands in a tuple -/
theorem go_make {z : Ad} {lm : Bool} {b : List Ac} {h : AH} {Q : KD} {X : KX} (f : Fit b) (q : Q (prog z lm b) h) : ∀ a, h a = none → (starS 1 (S_Program___init__ z)) (.ref a :: encs b) (up h a (.ins (clsOf z lm) [])) (fun v h2 => v = .non ∧ ∃ fs, h2 a = some (.ins (clsOf z lm) fs) ∧ Q (.ob (clsOf z lm) fs) (rm h2 a)) X := by
  intro a ha
  have l := len_cnt (b := b)
  have := f.cnt
  refine ⟨by simp, sz_le (by simp [encs_len]; omega), lm, a, b, rfl, up_same, f, rfl, _, up_same, ?_⟩
  rw [up_up, rm_up, rm_none ha]
  exact q
theorem p_Program_of (z : Ad) : ∀ ds h Q X, S_Program_of z ds h Q X → w_Program_of z (endsD Q X) (startD 2 ds) h := by
  rintro ds h Q X ⟨lm, b, rfl, f, q⟩
  show w_Program_of z (endsD Q X) [some (.ref (clsOf z lm)), some (.tup (encs b))] h
  unfold w_Program_of
  ((try dsimp only); rw [u_seq]; (try simp only [u_asg, u_gN, u_ret, u_retN, u_skip, u_expr, u_ifs, u_c, u_op, u_neg, u_test, u_and, u_or, u_not, u_if, u_nil, u_cons, u_tup, u_lst, u_callP, u_call, u_b, u_chain, u_andV, u_addI, u_subI, u_mulI, u_divI, u_modI, u_powI, u_cmpI, u_eqI, u_eqS, u_eqB, u_abs, u_intI, u_intB, u_newT, u_newF, u_isN, u_notN, wVar, List.set_cons_zero, List.set_cons_succ, List.getElem?_cons_zero, List.getElem?_cons_succ, List.length_cons, List.length_nil, u_lc, u_for, u_r1, u_r2, u_r3, u_num, u_notV, u_yes, u_w0, u_w1, u_dput, u_get2, u_dget, u_prop, u_fld, u_setF, u_make, u_makeS, u_met, u_calO, u_orT, u_tupIt, u_dc, u_maxDd, u_dnew, u_tupi, ix_p0, ix_p1, wSl, woNone, woSome]))
  refine ⟨_, _, _, _, rfl, rfl, rfl, ?_⟩
  simp only [Bool.not_true, Bool.false_eq_true, if_false]
  have key := go_make (z := z) (lm := lm) (X := X) f (fin_of q)
  cases lm with
  | false => exact .inl ⟨rfl, _, rfl, key⟩
  | true => exact .inr ⟨rfl, _, rfl, key⟩
theorem p_Program_size (z : Ad) : ∀ ds h Q X, S_Program_size z ds h Q X → w_Program_size z (endsD Q X) (startD 1 ds) h := by
  rintro ds h Q X ⟨lm, b, rfl, ok, d, q⟩
  show w_Program_size z (endsD Q X) [some (prog z lm b)] h
  unfold w_Program_size
  try simp only [u_asg, u_gN, u_ret, u_retN, u_skip, u_expr, u_ifs, u_c, u_op, u_neg, u_test, u_and, u_or, u_not, u_if, u_nil, u_cons, u_tup, u_lst, u_callP, u_call, u_b, u_chain, u_andV, u_addI, u_subI, u_mulI, u_divI, u_modI, u_powI, u_cmpI, u_eqI, u_eqS, u_eqB, u_abs, u_intI, u_intB, u_newT, u_newF, u_isN, u_notN, wVar, List.set_cons_zero, List.set_cons_succ, List.getElem?_cons_zero, List.getElem?_cons_succ, List.length_cons, List.length_nil, u_lc, u_for, u_r1, u_r2, u_r3, u_num, u_notV, u_yes, u_w0, u_w1, u_dput, u_get2, u_dget, u_prop, u_fld, u_setF, u_make, u_makeS, u_met, u_calO, u_orT, u_tupIt, u_dc, u_maxDd, u_dnew, u_tupi, ix_p0, ix_p1, wSl, woNone, woSome]
  exact go_held (lm := lm) (b := b) (i := 0) rfl ⟨trivial, b, rfl, ok, by omega, fin_of q⟩
theorem p_Program_reach (z : Ad) : ∀ ds h Q X, S_Program_reach z ds h Q X → w_Program_reach z (endsD Q X) (startD 1 ds) h := by
  rintro ds h Q X ⟨lm, b, rfl, ok, d, q⟩
  show w_Program_reach z (endsD Q X) [some (prog z lm b)] h
  unfold w_Program_reach
  try simp only [u_asg, u_gN, u_ret, u_retN, u_skip, u_expr, u_ifs, u_c, u_op, u_neg, u_test, u_and, u_or, u_not, u_if, u_nil, u_cons, u_tup, u_lst, u_callP, u_call, u_b, u_chain, u_andV, u_addI, u_subI, u_mulI, u_divI, u_modI, u_powI, u_cmpI, u_eqI, u_eqS, u_eqB, u_abs, u_intI, u_intB, u_newT, u_newF, u_isN, u_notN, wVar, List.set_cons_zero, List.set_cons_succ, List.getElem?_cons_zero, List.getElem?_cons_succ, List.length_cons, List.length_nil, u_lc, u_for, u_r1, u_r2, u_r3, u_num, u_notV, u_yes, u_w0, u_w1, u_dput, u_get2, u_dget, u_prop, u_fld, u_setF, u_make, u_makeS, u_met, u_calO, u_orT, u_tupIt, u_dc, u_maxDd, u_dnew, u_tupi, ix_p0, ix_p1, wSl, woNone, woSome]
  exact go_held (lm := lm) (b := b) (i := 0) rfl ⟨trivial, b, rfl, ok, by omega, by omega, fin_of q⟩
end PK
namespace PK
open PySem PySem.Spec L2 C8 DL
theorem u_truth {a : WE} {ρ : EnvD} {h : AH} {Q : Bool → AH → Prop} {X : KX} : wTruth a ρ h Q X = a ρ h (fun x h1 => ∃ k, truD h1 x = some k ∧ Q k h1) X := rfl
end PK
namespace PK
open PySem PySem.Spec L2 C8 DL
end PK
namespace PK
open PySem PySem.Spec L2 C8 DL
end PK
namespace PK
open PySem PySem.Spec L2 C8 DL
end PK
namespace PK
open PySem PySem.Spec L2 C8 DL
/-! ### more for families of laws -/
theorem at_memq {xs : List D} {v : Int} (h0 : 0 ≤ v) (h1 : v < xs.length) : ∃ x ∈ xs, atI xs v = some x := by
  obtain ⟨k, rfl⟩ := Int.eq_ofNat_of_zero_le h0
  have hk : k < xs.length := by omega
  exact ⟨xs[k], List.getElem_mem hk, by rw [atI_nat hk]; exact List.getElem?_eq_getElem hk⟩
end PK
namespace F1
open PySem PySem.Spec L2 C8 DL PK
abbrev N__law_pen : List Str := ["_law_script"]
abbrev N__law_draw : List Str := ["_law_pen_here", "_law_bound", "_law_digit", "_law_turn", "_law_cell", "_law_great", "_law_mixed"]
abbrev S__law_pen (z : Ad) : FSpec := S_pen
abbrev S__law_draw (z : Ad) : FSpec := S_draw
/-! bounds, by how deep -/
end F1
namespace F1
open PySem PySem.Spec L2 C8 DL PK
/-! ### the readings -/
def w__law_pen (z : Ad) : WS := (wRet (wLst true (wCons (wB (dListOf false) (wCons (wSl false (wVar 0) woNone (woSome (wC (.int 63)))) wNil)) (wCons (wC (.int 0)) (wCons (wC (.int 0)) wNil)))))
def w__law_draw (z : Ad) : WS := (wSeq (wIfS (wTest (wOp (dCmpI fun i j => decide (j < i)) (wOp dIx (wVar 0) (wC (.int 2))) (wC (.int 0)))) (wSeq (wAsg (wOp dMod (wOp dIx (wVar 0) (wC (.int 2))) (wVar 1)) (gN 2))
  (wSeq (wAsg (wOp dDiv (wOp dIx (wVar 0) (wC (.int 2))) (wVar 1)) (gSubL (wVar 0) (wC (.int 2))))
  (wRet (wVar 2)))) wSkip)
  (wSeq (wAsg (wOp dIx (wVar 0) (wC (.int 1))) (gN 3))
  (wSeq (wAsg (wOp (dAdd false) (wVar 3) (wC (.int 1))) (gSubL (wVar 0) (wC (.int 1))))
  (wSeq (wAsg (wOp (dAdd false) (wOp (dMul false) (wC (.int 80239)) (wVar 3)) (wC (.int 71))) (gN 4))
  (wSeq (wIfS (wTest (wOp (dEq fun b => !b) (wOp dIx (wVar 0) (wC (.int 0))) (wLst false wNil))) (wAsg (wOp dIx (wOp dIx (wVar 0) (wC (.int 0))) (wOp dMod (wVar 3) (wB dLen (wCons (wOp dIx (wVar 0) (wC (.int 0))) wNil)))) (gN 4)) wSkip)
  (wSeq (wIfS (wAnd (wTest (wOp (dCmpI fun i j => decide (i < j)) (wVar 3) (wB dLen (wCons (wOp dIx (wVar 0) (wC (.int 0))) wNil)))) (wTest (wOp (dCmpI fun i j => decide (j ≤ i)) (wB dAbs (wCons (wVar 4) wNil)) (wOp dPow (wC (.int 10)) (wC (.int 18)))))) (wSeq (wAsg (wOp (dAdd false) (wOp (dMul false) (wC (.int 2)) (wB dAbs (wCons (wVar 4) wNil))) (wB dInt (wCons (wOp (dCmpI fun i j => decide (i < j)) (wVar 4) (wC (.int 0))) wNil))) (gN 5))
  (wSeq (wAsg (wOp dDiv (wVar 5) (wVar 1)) (gSubL (wVar 0) (wC (.int 2))))
  (wRet (wOp dMod (wVar 5) (wVar 1))))) wSkip)
  (wSeq (wAsg (wOp dMod (wOp dPow (wOp (dAdd false) (wOp (dAdd false) (wOp dMod (wVar 4) (wC (.int 2147483587))) (wOp (dMul false) (wC (.int 61027)) (wVar 3))) (wC (.int 29))) (wC (.int 3))) (wC (.int 2147483629))) (gN 6))
  (wSeq (wAsg (wOp dMod (wOp dPow (wOp (dAdd false) (wOp (dMul false) (wVar 6) (wOp (dAdd false) (wOp (dMul false) (wC (.int 2)) (wVar 3)) (wC (.int 9)))) (wC (.int 93239))) (wC (.int 3))) (wC (.int 2147483543))) (gN 6))
  (wRet (wOp dMod (wOp dDiv (wVar 6) (wC (.int 16))) (wVar 1)))))))))))
end F1
namespace F1
open PySem PySem.Spec L2 C8 DL PK
theorem p__law_pen (z : Ad) : ∀ ds h Q X, S__law_pen z ds h Q X → w__law_pen z (endsD Q X) (startD 1 ds) h := p_pen
theorem len__law_pen (z : Ad) : ∀ ds h Q X, S__law_pen z ds h Q X → ds.length = 1 := len_pen
theorem mo__law_pen (z : Ad) : MoF (S__law_pen z) := mo_pen
theorem p__law_draw (z : Ad) : ∀ ds h Q X, S__law_draw z ds h Q X → w__law_draw z (endsD Q X) (startD 7 ds) h := p_draw2
theorem len__law_draw (z : Ad) : ∀ ds h Q X, S__law_draw z ds h Q X → ds.length = 2 := len_draw
theorem mo__law_draw (z : Ad) : MoF (S__law_draw z) := mo_draw
end F1
namespace F1
open PySem PySem.Spec L2 C8 DL PK
end F1
namespace DL
open PySem PySem.Spec L2 C8 PyProof.Rows
end DL
/-! x == y and x != y by a written __eq__ -/
namespace DL
open PySem PySem.Spec L2 C8 PyProof.Rows
end DL
/-! methods called by keywords; methods whose last parameter has a default -/
namespace DL
open PySem PySem.Spec L2 C8
/-! ### a default behind the parameters that are written -/
/-! ### cls(e, ..) -/
end DL
/-! instances called by keywords -/
namespace DL
open PySem PySem.Spec L2 C8
end DL
/-! classmethods called by keywords -/
namespace DL
open PySem PySem.Spec L2 C8
section
variable (P : Program) (w : World) (K : PySem.W.Frag) (mg : Str → Option Value) (base : Heap)
structure CMetKC (C : Addr) (m : Str) (k : Nat) (ks : List Str) (gg : List D → List D → List D) (S : FSpec) : Prop where
  ex : ∃ mc p g fd ps, ClX.CRead K C mc ∧ ClX.CMet K C mc m p g ∧ FnG false P w K mg base k g fd ps S ∧ Bnd K fd ps 1 ks gg
end
section
variable {X : Cx} {E : XK} {gz : Bool} {k j : Nat} {o : Expr} {kws : List Keyword} {wo : WE} {wk : WA} {pos apos : Pos} {m : Str} {C : Addr} {S : FSpec} {ks : List Str} {gg : List D → List D → List D}
/-- o.m(k = e), o the class C, m a classmethod -/
def wCMetK (C : Addr) (S : FSpec) (l : Nat) (gg : List D → List D → List D) (wo : WE) (wk : WA) : WE := fun ρ h Q X => wo ρ h (fun x h1 => x = .ref C ∧ wk ρ h1 (fun zs h2 => zs.length = l ∧ S (gg [.ref C] zs) h2 Q X) X) X
theorem ag_cmetK {pl : Sem Bool} {l : Nat} (c : Cg gz X E k) (M : CMetKC X.prog X.w X.K X.mg X.base C m j ks gg S) (hj : j ≤ k) (ho : AE X E o wo) (hkw : AK X E kws wk) (hl : ks.length = l := by rfl)
    (hall : (backToKw pos (keywordEach kws X.env)).all (·.1.isSome) = true := by rfl) (hks : (backToKw pos (keywordEach kws X.env)).filterMap (·.1) = ks := by rfl)
    (hpl : ((backTo pos (starEach [] X.env)).any (·.1) || (backToKw pos (keywordEach kws X.env)).any (·.1.isNone)) = false := by rfl)
    (ht : eval (.Call (.Attribute o m apos) [] kws pos) X.env = (do let ov ← eval o X.env; standAt apos.atName; let (f, first) ← holding [ov] (getMethod ov m pl); callWith pos f first (backTo pos (starEach [] X.env)) (backToKw pos (keywordEach kws X.env))) := by rfl) : AE X E (.Call (.Attribute o m apos) [] kws pos) (wCMetK C S l gg wo wk) := by
  obtain ⟨mc, p, g, fd, ps, r0, cm, G, B⟩ := M.ex
  refine ⟨⟨fun pins s σ H Q I hq => ?_⟩, fun ρ h Q Q' X X' hq hx q => ho.mo _ _ _ _ _ _ (fun x h1 ⟨e1, z⟩ => ⟨e1, hkw.mo _ _ _ _ _ _ (fun zs h2 z => ⟨z.1, G.mo _ _ _ _ _ _ hq hx z.2⟩) hx z⟩) hx q⟩
  obtain ⟨F, ρ, h, S0, R, q⟩ := hq
  refine PySem.W.methodCall_KW (pl := pl) (thn (ho.run.run pins s σ H (fun v H1 => ∃ F1 h1, v = .ref C ∧ Ext F F1 ∧ Sim X.K F1 h1 H1 ∧ wk ρ h1 (fun zs h2 => zs.length = l ∧ S (gg [.ref C] zs) h2 (LQ X.K F1 Q) (LX X.K F1 E)) (LX X.K F1 E)) I
    ⟨F, ρ, h, S0, R, ho.mo _ _ _ _ _ _ (fun x h1 z F1 H1 v e1 S1 r => ?_) (fun _ _ z => z) q⟩) fun u s1 hh => ?_) ht
  · obtain ⟨rfl, z⟩ := z
    cases r
    exact ⟨F1, h1, rfl, e1, S1, hkw.mo _ _ _ _ _ _ (fun zs h2 z => ⟨z.1, G.mo _ _ _ _ _ _ (fun _ _ z => LQ.ext e1 z) (fun _ _ z => LX.ext e1 z) z.2⟩) (fun _ _ z => LX.ext e1 z) z⟩
  obtain ⟨v, H1, I1, rv, F1, h1, ev, e1, S1, z⟩ := hh
  subst ev
  obtain rfl : u = Value.ref C := rv
  refine ClX.getmethcm_ok I1 r0 cm fun s2 I2 => ?_
  refine PySem.W.callWith_of (P := PySem.W.MethP X.K s1.heap.objs.size g (.ref C)) hpl (PySem.W.keeps_M cm.fi) (PyProof.Rows.evalArgs_kw2_nil hall ?_)
  refine (thn (hkw.run.run pos _ s2 σ H1 (fun ys H2 => ∃ F2 h2 zs, Ext F1 F2 ∧ Sim X.K F2 h2 H2 ∧ Reps X.K F2 zs ys ∧ zs.length = l ∧ S (gg [.ref C] zs) h2 (LQ X.K F2 Q) (LX X.K F2 E)) I2
      ⟨F1, ρ, h1, S1, R.ext e1, hkw.mo _ _ _ _ _ _ (fun zs h2 q2 F2 H2 ys e2 S2 rz => ⟨F2, h2, zs, e2, S2, rz, q2.1, G.mo _ _ _ _ _ _ (fun _ _ z => LQ.ext e2 z) (fun _ _ z => LX.ext e2 z) q2.2⟩) (fun _ _ z => z) z⟩) fun ws s3 hh => ?_)
  obtain ⟨ys, H2, I3, r2, F2, h2, zs, e2, S2, rz, l2, q2⟩ := hh
  refine ⟨⟨ClX.pin_at I3, I3.kIn⟩, ?_⟩
  rw [hks]
  obtain ⟨xs, ts, rx, rt, bt⟩ := B.to s3 F2 [.ref C] zs [V.ref C] ys [Value.ref C] ws I3.kIn rfl (l2.trans hl.symm) (.cons (.ref C) .nil) (.cons rfl .nil) rz r2
  have zz : wpAny (model X.prog X.w) X.A (call (.ref s1.heap.objs.size) [] (ks.zip ws)) (EP X ((s1.heap.objs.size, PySem.W.methodObj (.ref g) (.ref C)) :: pins) σ Q) X.xe s3 :=
    wpAny_call (PySem.W.method_call (ClX.pin_at I3) (codeAny_mono (run_g (c.mono hj) G (fun z => Bool.noConfusion z) I3 bt rt ⟨F2, _, h2, S2, rx, q2⟩) fun r s' hr => by
      match r, hr with
      | .error _, hr => exact hr
      | .ok (.ret _), hr => exact hr))
  exact thn zz fun _ _ y => ClX.unpinE y
end
end DL
namespace PX
open PySem PySem.Spec L2 C8 DL PK F1
abbrev N_wrong_in : List Str := ["body", "place", "count", "index", "action", "here", "wrong"]
abbrev N_first_wrong : List Str := ["body"]
abbrev N_Program___init__ : List Str := ["self", "actions", "wrong", "size", "reach"]
abbrev N_Program_of : List Str := ["cls", "body"]
abbrev N__law_heard : List Str := ["_law_ask", "_law_caught", "_law_told", "error", "_law_marks", "_law_bases", "_law_at"]
def errs (z : Ad) : List Addr := [z.InvalidProgram, z.NoPlace, z.TooLarge, z.TooLong, z.InvalidNumber, z.InvalidMode, z.DifferentModes]
def xtab (z : Ad) : XTab := [(z.InvalidProgram, .ref z.DifferentModes, false), (z.InvalidProgram, .ref z.InvalidCapacity, false), (z.InvalidProgram, .ref z.InvalidMode, false), (z.InvalidProgram, .ref z.InvalidNumber, false), (z.InvalidProgram, .ref z.InvalidProgram, true), (z.InvalidProgram, .ty "LookupError", false), (z.InvalidProgram, .ref z.NoPlace, false), (z.InvalidProgram, .ref z.NoPoint, false), (z.InvalidProgram, .ty "OverflowError", false), (z.InvalidProgram, .ref z.TooLarge, false), (z.InvalidProgram, .ref z.TooLong, false), (z.InvalidProgram, .ref z.TooManyProcesses, false), (z.InvalidProgram, .ty "ValueError", true), (z.NoPlace, .ref z.DifferentModes, false), (z.NoPlace, .ref z.InvalidCapacity, false), (z.NoPlace, .ref z.InvalidMode, false), (z.NoPlace, .ref z.InvalidNumber, false), (z.NoPlace, .ref z.InvalidProgram, false), (z.NoPlace, .ty "LookupError", true), (z.NoPlace, .ref z.NoPlace, true), (z.NoPlace, .ref z.NoPoint, false), (z.NoPlace, .ty "OverflowError", false), (z.NoPlace, .ref z.TooLarge, false), (z.NoPlace, .ref z.TooLong, false), (z.NoPlace, .ref z.TooManyProcesses, false), (z.NoPlace, .ty "ValueError", false), (z.TooLarge, .ref z.DifferentModes, false), (z.TooLarge, .ref z.InvalidCapacity, false), (z.TooLarge, .ref z.InvalidMode, false), (z.TooLarge, .ref z.InvalidNumber, false), (z.TooLarge, .ref z.InvalidProgram, false), (z.TooLarge, .ty "LookupError", false), (z.TooLarge, .ref z.NoPlace, false), (z.TooLarge, .ref z.NoPoint, false), (z.TooLarge, .ty "OverflowError", true), (z.TooLarge, .ref z.TooLarge, true), (z.TooLarge, .ref z.TooLong, false), (z.TooLarge, .ref z.TooManyProcesses, false), (z.TooLarge, .ty "ValueError", false), (z.TooLong, .ref z.DifferentModes, false), (z.TooLong, .ref z.InvalidCapacity, false), (z.TooLong, .ref z.InvalidMode, false), (z.TooLong, .ref z.InvalidNumber, false), (z.TooLong, .ref z.InvalidProgram, false), (z.TooLong, .ty "LookupError", false), (z.TooLong, .ref z.NoPlace, false), (z.TooLong, .ref z.NoPoint, false), (z.TooLong, .ty "OverflowError", true), (z.TooLong, .ref z.TooLarge, false), (z.TooLong, .ref z.TooLong, true), (z.TooLong, .ref z.TooManyProcesses, false), (z.TooLong, .ty "ValueError", false), (z.InvalidNumber, .ref z.DifferentModes, false), (z.InvalidNumber, .ref z.InvalidCapacity, false), (z.InvalidNumber, .ref z.InvalidMode, false), (z.InvalidNumber, .ref z.InvalidNumber, true), (z.InvalidNumber, .ref z.InvalidProgram, false), (z.InvalidNumber, .ty "LookupError", false), (z.InvalidNumber, .ref z.NoPlace, false), (z.InvalidNumber, .ref z.NoPoint, false), (z.InvalidNumber, .ty "OverflowError", false), (z.InvalidNumber, .ref z.TooLarge, false), (z.InvalidNumber, .ref z.TooLong, false), (z.InvalidNumber, .ref z.TooManyProcesses, false), (z.InvalidNumber, .ty "ValueError", true), (z.InvalidMode, .ref z.DifferentModes, false), (z.InvalidMode, .ref z.InvalidCapacity, false), (z.InvalidMode, .ref z.InvalidMode, true), (z.InvalidMode, .ref z.InvalidNumber, false), (z.InvalidMode, .ref z.InvalidProgram, false), (z.InvalidMode, .ty "LookupError", false), (z.InvalidMode, .ref z.NoPlace, false), (z.InvalidMode, .ref z.NoPoint, false), (z.InvalidMode, .ty "OverflowError", false), (z.InvalidMode, .ref z.TooLarge, false), (z.InvalidMode, .ref z.TooLong, false), (z.InvalidMode, .ref z.TooManyProcesses, false), (z.InvalidMode, .ty "ValueError", true), (z.DifferentModes, .ref z.DifferentModes, true), (z.DifferentModes, .ref z.InvalidCapacity, false), (z.DifferentModes, .ref z.InvalidMode, false), (z.DifferentModes, .ref z.InvalidNumber, false), (z.DifferentModes, .ref z.InvalidProgram, false), (z.DifferentModes, .ty "LookupError", false), (z.DifferentModes, .ref z.NoPlace, false), (z.DifferentModes, .ref z.NoPoint, false), (z.DifferentModes, .ty "OverflowError", false), (z.DifferentModes, .ref z.TooLarge, false), (z.DifferentModes, .ref z.TooLong, false), (z.DifferentModes, .ref z.TooManyProcesses, false), (z.DifferentModes, .ty "ValueError", true)]
/-! ### what is wrong in a body of things -/
def unT : D → List D
  | .tup ys => ys
  | _ => []
def innL : D → List D
  | .tup xs => unT (innD xs)
  | _ => []
def wrgI (f : List Nat → List D → Nat → Option (List Nat) × Nat) (p : List Nat) : Nat → List D → Nat → Option (List Nat) × Nat
  | _, [], c => (none, c)
  | i, x :: xs, c => if headD x = false ∨ 6 < p.length + 1 ∨ 300 < c + 1 then (some (p ++ [i]), c + 1) else
    match f (p ++ [i]) (innL x) (c + 1) with
    | (some w, d) => (some w, d)
    | (none, d) => wrgI f p (i + 1) xs d
def wrg : Nat → List Nat → List D → Nat → Option (List Nat) × Nat
  | 0, p, xs, c => wrgI (fun _ _ c => (none, c)) p 0 xs c
  | k + 1, p, xs, c => wrgI (wrg k) p 0 xs c
/-- the place of the first action that cannot stand -/
def fw (xs : List D) : Option (List Nat) := (wrg 6 [] xs 0).1
def seatO : Option (List Nat) → D
  | none => .non
  | some p => plcD p
/-! the same without bounds -/
def wr0I (f : List Nat → List D → Option (List Nat)) (p : List Nat) : Nat → List D → Option (List Nat)
  | _, [] => none
  | i, x :: xs => if headD x = false then some (p ++ [i]) else
    match f (p ++ [i]) (innL x) with
    | some w => some w
    | none => wr0I f p (i + 1) xs
def wr0 : Nat → List Nat → List D → Option (List Nat)
  | 0, _, _ => none
  | k + 1, p, xs => wr0I (wr0 k) p 0 xs
/-- how deep heads stand in heads -/
def adp : Nat → List D → Bool
  | 0, xs => xs.isEmpty
  | n + 1, xs => xs.all fun x => !headD x || adp n (innL x)
/-- how many are looked at -/
def cnt : Nat → List D → Nat
  | 0, _ => 0
  | n + 1, xs => (xs.map fun x => 1 + if headD x = true then cnt n (innL x) else 0).sum
/-! ### judged n levels deep -/
/-! ### refusals -/
def noProg (z : Ad) (v : D) : DX := .own z.InvalidProgram [("place", v)]
def tooLarge (z : Ad) (n : Nat) : DX := .own z.TooLarge [("points", .int (n : Nat))]
def tooLong (z : Ad) (n : Nat) : DX := .own z.TooLong [("length", .int (n : Nat))]
/-- what comes of the making of a program -/
def Mk (z : Ad) (xs : List D) (h : AH) (X : KX) (G : List Ac → Prop) : Prop :=
  (∀ p, fw xs = some p → ∀ h', Sub h h' → X (noProg z (plcD p)) h') ∧
  (∀ b, xs = encs b → okB b = true → fw xs = none → 2000 < sizB b → ∀ h', Sub h h' → X (tooLarge z (sizB b)) h') ∧
  (∀ b, xs = encs b → okB b = true → fw xs = none → sizB b ≤ 2000 → 2000 < rchB b → ∀ h', Sub h h' → X (tooLong z (rchB b)) h') ∧
  ∀ b, xs = encs b → Fit b → G b
def S_wrong_in (z : Ad) (n : Nat) : FSpec := fun ds h Q _ => ∃ (xs : List D) (p : List Nat) (c k : Nat), ds = [.tup xs, plcD p, .int c] ∧ th (.tup xs) = true ∧ k < n ∧ k + p.length = 6 ∧ c ≤ 301 ∧ Q (.tup [seatO (wrg k p xs c).1, .int ((wrg k p xs c).2 : Nat)]) h
def S_first_wrong (z : Ad) : FSpec := fun ds h Q _ => ∃ xs, ds = [.tup xs] ∧ th (.tup xs) = true ∧ Q (seatO (fw xs)) h
def S_Program___init__ (z : Ad) : FSpec := fun ds h Q X => ∃ lm a xs, ds = [.ref a, .tup xs] ∧ h a = some (.ins (clsOf z lm) []) ∧ th (.tup xs) = true ∧
  Mk z xs h X (fun b => Q .non (up h a (.ins (clsOf z lm) [("held", .tup (encs b))])))
def S_Program_of (z : Ad) : FSpec := fun ds h Q X => ∃ lm x, ds = [.ref (clsOf z lm), x] ∧ th x = true ∧ (isTup x = false → ∀ h', Sub h h' → X (noProg z (.tup [])) h') ∧
  ∀ xs, x = .tup xs → Mk z xs h X (fun b => Q (prog z lm b) h)
/-- errors that are heard -/
inductive Hrd (z : Ad) : Addr → List (Str × D) → Str → D → Prop where
  | prg (v : D) : Hrd z z.InvalidProgram [("place", v)] "program" v
  | plc (v : D) : Hrd z z.NoPlace [("place", v)] "place" v
  | large (v : D) : Hrd z z.TooLarge [("points", v)] "large" v
  | long (v : D) : Hrd z z.TooLong [("length", v)] "long" v
  | num (v : D) : Hrd z z.InvalidNumber [("value", v)] "number" v
  | mode (v : D) : Hrd z z.InvalidMode [("value", v)] "mode" v
  | modes : Hrd z z.DifferentModes [] "modes" .non
def S__law_heard (z : Ad) : HSpec := fun tl h Q _ => tl h (fun d h' => Q (.lst [d]) h') (fun x h' => ∃ C fs w v, x = .own C fs ∧ Hrd z C fs w v ∧ Q (.tup [.str w, v]) h')
/-! ### the readings -/
def w_wrong_in (z : Ad) (n : Nat) : WS := (wSeq (wFor (iNum (wCons (wVar 0) wNil)) (gT 2 (gsCons (gN 3) (gsCons (gN 4) gsNil))) (wSeq (wAsg (wTup (wStar (wVar 1) (wCons (wVar 3) wNil))) (gN 5))
  (wSeq (wAsg (wOp (dAdd false) (wVar 2) (wC (.int 1))) (gN 2))
  (wSeq (wIfS (wOr (wNot (wTest (wCallP (PK.S_is_head z) 1 (fun ds _ => ds) (wCons (wVar 4) wNil)))) (wOr (wTest (wOp (dCmpI fun i j => decide (j < i)) (wB dLen (wCons (wVar 5) wNil)) (wC (.int 6)))) (wTest (wOp (dCmpI fun i j => decide (j < i)) (wVar 2) (wC (.int 300)))))) (wRet (wTup (wCons (wVar 5) (wCons (wVar 2) wNil)))) wSkip)
  (wSeq (wAsg (wCallP (S_wrong_in z n) 3 (fun ds _ => ds) (wCons (wCallP (PK.S_inner_of z) 1 (fun ds _ => ds) (wCons (wVar 4) wNil)) (wCons (wVar 5) (wCons (wVar 2) wNil)))) (gT 2 (gsCons (gN 6) (gsCons (gN 2) gsNil))))
  (wIfS (wTest (wOp (dIsN fun b => !b) (wVar 6) (wC .non))) (wRet (wTup (wCons (wVar 6) (wCons (wVar 2) wNil)))) wSkip))))))
  (wRet (wTup (wCons (wC .non) (wCons (wVar 2) wNil)))))
def w_first_wrong (z : Ad) : WS := (wRet (wOp dIx (wCallP (S_wrong_in z 16) 3 (fun ds _ => ds) (wCons (wVar 0) (wCons (wTup wNil) (wCons (wC (.int 0)) wNil)))) (wC (.int 0))))
def w_Program___init__ (z : Ad) : WS := (wSeq (wAsg (wCallP (S_first_wrong z) 1 (fun ds _ => ds) (wCons (wVar 1) wNil)) (gN 2))
  (wSeq (wIfS (wTest (wOp (dIsN fun b => !b) (wVar 2) (wC .non))) (wRaise z.InvalidProgram ["place"] (wCons (wVar 2) wNil)) wSkip)
  (wSeq (wAsg (wCallP (PK.S_size_in z 16) 1 (fun ds _ => ds) (wCons (wVar 1) wNil)) (gN 3))
  (wSeq (wIfS (wTest (wOp (dCmpI fun i j => decide (j < i)) (wVar 3) (wC (.int 2000)))) (wRaise z.TooLarge ["points"] (wCons (wVar 3) wNil)) wSkip)
  (wSeq (wAsg (wCallP (PK.S_reach_in z 16) 1 (fun ds _ => ds) (wCons (wVar 1) wNil)) (gN 4))
  (wSeq (wIfS (wTest (wOp (dCmpI fun i j => decide (j < i)) (wVar 4) (wC (.int 2000)))) (wRaise z.TooLong ["length"] (wCons (wVar 4) wNil)) wSkip)
  (wOrS (wSetF z.Program "held" (wVar 0) (wVar 1)) (wSetF z.LineProgram "held" (wVar 0) (wVar 1)))))))))
def w_Program_of (z : Ad) : WS := (wSeq (wIfS (wNot (wTest (wB dIsi (wCons (wVar 1) (wCons (wC (.ty "tuple")) wNil))))) (wRaise z.InvalidProgram ["place"] (wCons (wTup wNil) wNil)) wSkip)
  (wRet (wOrE (wMakeVS z.Program (starS 1 (S_Program___init__ z)) 0 (wVar 1)) (wMakeVS z.LineProgram (starS 1 (S_Program___init__ z)) 0 (wVar 1)))))
def w__law_heard (z : Ad) (d : D) (tl : Thk) : WS := (wSeq (wAsg (wC .non) (gN 1))
  (wSeq (wAsg (wC .non) (gN 2))
  (wSeq (wTry (errs z) 7 1 (wAsg (wAct 0 d tl) (gN 2)))
  (wSeq (wIfS (wTest (wOp (dIsN fun b => b) (wVar 1) (wC .non))) (wRet (wLst false (wCons (wVar 2) wNil))) wSkip)
  (wSeq (wAsg (wLst true (wCons (wB (dIsX (xtab z)) (wCons (wVar 1) (wCons (wC (.ref z.InvalidProgram)) wNil))) (wCons (wB (dIsX (xtab z)) (wCons (wVar 1) (wCons (wC (.ref z.NoPlace)) wNil))) (wCons (wB (dIsX (xtab z)) (wCons (wVar 1) (wCons (wC (.ref z.TooLarge)) wNil))) wNil)))) (gN 4))
  (wSeq (wAsg (wOp (dAdd true) (wVar 4) (wLst false (wCons (wB (dIsX (xtab z)) (wCons (wVar 1) (wCons (wC (.ref z.TooLong)) wNil))) (wCons (wB (dIsX (xtab z)) (wCons (wVar 1) (wCons (wC (.ref z.InvalidNumber)) wNil))) (wCons (wB (dIsX (xtab z)) (wCons (wVar 1) (wCons (wC (.ref z.InvalidMode)) wNil))) wNil))))) (gN 4))
  (wSeq (wExpr (wMethT isL dAppend (wVar 4) (wCons (wB (dIsX (xtab z)) (wCons (wVar 1) (wCons (wC (.ref z.DifferentModes)) wNil))) wNil)))
  (wSeq (wAsg (wLst false (wCons (wB (dIsX (xtab z)) (wCons (wVar 1) (wCons (wC (.ty "ValueError")) wNil))) (wCons (wB (dIsX (xtab z)) (wCons (wVar 1) (wCons (wC (.ty "LookupError")) wNil))) (wCons (wB (dIsX (xtab z)) (wCons (wVar 1) (wCons (wC (.ty "OverflowError")) wNil))) wNil)))) (gN 5))
  (wSeq (wIfS (wOr (wTest (wOp (dEq fun b => !b) (wMethT isL dCountB (wVar 4) (wCons (wC (.bl true)) wNil)) (wC (.int 1)))) (wTest (wB (dIsXT (xtab z)) (wCons (wVar 1) (wCons (wTup (wCons (wC (.ref z.InvalidCapacity)) (wCons (wC (.ref z.TooManyProcesses)) (wCons (wC (.ref z.NoPoint)) wNil)))) wNil))))) (wRet (wTup (wCons (wC (.str "another")) (wCons (wC .non) wNil)))) wSkip)
  (wSeq (wAsg (wMethT isL dIndexB (wVar 4) (wCons (wC (.bl true)) wNil)) (gN 6))
  (wSeq (wIfS (wTest (wOp (dEq fun b => !b) (wVar 5) (wLst false (wCons (wOp (dIn true) (wVar 6) (wTup (wCons (wC (.int 1)) (wCons (wC (.int 2)) (wCons (wC (.int 3)) wNil))))) (wCons (wOp (dEq fun b => b) (wVar 6) (wC (.int 1))) (wCons (wOp (dIn false) (wVar 6) (wTup (wCons (wC (.int 2)) (wCons (wC (.int 3)) wNil)))) wNil)))))) (wRet (wTup (wCons (wC (.str "another")) (wCons (wC .non) wNil)))) wSkip)
  (wSeq (wIfS (wTest (wOp (dCmpI fun i j => decide (i < j)) (wVar 6) (wC (.int 2)))) (wRet (wTup (wCons (wOp dIx (wLst false (wCons (wC (.str "program")) (wCons (wC (.str "place")) wNil))) (wVar 6)) (wCons (wXFld [z.InvalidProgram, z.NoPlace] "place" (wVar 1)) wNil)))) wSkip)
  (wSeq (wIfS (wTest (wOp (dCmpI fun i j => decide (i < j)) (wVar 6) (wC (.int 4)))) (wRet (wIf (wTest (wOp (dEq fun b => b) (wVar 6) (wC (.int 2)))) (wTup (wCons (wC (.str "large")) (wCons (wXFld [z.TooLarge] "points" (wVar 1)) wNil))) (wTup (wCons (wC (.str "long")) (wCons (wXFld [z.TooLong] "length" (wVar 1)) wNil))))) wSkip)
  (wRet (wIf (wTest (wOp (dEq fun b => b) (wVar 6) (wC (.int 6)))) (wTup (wCons (wC (.str "modes")) (wCons (wC .non) wNil))) (wTup (wCons (wOp dIx (wLst false (wCons (wC (.str "number")) (wCons (wC (.str "mode")) wNil))) (wOp dSub (wVar 6) (wC (.int 4)))) (wCons (wXFld [z.InvalidNumber, z.InvalidMode] "value" (wVar 1)) wNil))))))))))))))))))
end PX
namespace PX
open PySem PySem.Spec L2 C8 DL PK F1
/-! ### heads -/
theorem innD_tup {xs : List D} (h : headL xs = true) : innD xs = .tup (innL (.tup xs)) := by
  have key : ∃ ys, innD xs = .tup ys := by
    obtain ⟨w, ps, rfl⟩ := head_str h
    unfold innD
    dsimp only
    by_cases c : w = "fork" ∨ w = "repeat"
    · rw [if_pos c]
      rcases c with rfl | rfl
      · obtain ⟨x, rfl, t⟩ := head_fork h
        exact tup_of t
      · obtain ⟨x, y, rfl, _, t⟩ := head_repeat h
        exact tup_of t
    · rw [if_neg c]
      exact ⟨[], rfl⟩
  obtain ⟨ys, e⟩ := key
  rw [innL, e, unT]
theorem innD_th {xs : List D} (hh : headL xs = true) (hx : th (.tup xs) = true) : th (innD xs) = true ∧ dep (innD xs) < dep (.tup xs) := by
  obtain ⟨w, ps, rfl⟩ := head_str hh
  obtain ⟨_, hm⟩ := th_tup hx
  have pos : 0 < dep (.tup (.str w :: ps)) := Nat.lt_of_lt_of_le (Nat.succ_pos _) (dep_tup (List.mem_cons_self ..))
  unfold innD
  dsimp only
  by_cases c : w = "fork" ∨ w = "repeat"
  · rw [if_pos c]
    rcases c with rfl | rfl
    · obtain ⟨x, rfl, _⟩ := head_fork hh
      exact ⟨hm x (by simp), dep_tup (by simp)⟩
    · obtain ⟨x, y, rfl, _⟩ := head_repeat hh
      exact ⟨hm y (by simp), dep_tup (by simp)⟩
  · rw [if_neg c]
    exact ⟨th_nil, by rw [dep_nil]; exact pos⟩
theorem inn_th {x : D} (hh : headD x = true) (hx : th x = true) : th (.tup (innL x)) = true ∧ dep (.tup (innL x)) < dep x := by
  cases x with
  | tup xs =>
    have hh : headL xs = true := hh
    have := innD_th hh hx
    rw [innD_tup hh] at this
    exact this
  | _ => cases hh
theorem innL_enc {a : Ac} (h : okA a = true) : innL (enc a) = encs (inn a) := by
  rw [enc_eq, innL, inn_ok h, unT]
/-- a head over a body is an action -/
theorem enc_of {x : D} (hh : headD x = true) {c : List Ac} (oc : okB c = true) (e : innL x = encs c) : ∃ a, x = enc a ∧ okA a = true ∧ inn a = c := by
  cases x with
  | tup xs =>
    have hh : headL xs = true := hh
    have ei := innD_tup hh
    rw [e] at ei
    obtain ⟨w, ps, rfl⟩ := head_str hh
    by_cases c1 : bare w = true
    · obtain ⟨n1, n2, n3⟩ := bare_ne c1
      unfold headL at hh
      dsimp only at hh
      rw [if_pos c1] at hh
      obtain rfl : ps = [] := by cases ps with
        | nil => rfl
        | cons _ _ => cases hh
      unfold innD at ei
      dsimp only at ei
      rw [if_neg (by rintro (z | z); exact n1 z; exact n2 z)] at ei
      have : c = [] := encs_nil (by injection ei)
      subst this
      exact ⟨.bare w, by rw [enc], by rw [okA]; exact c1, rfl⟩
    · by_cases c2 : w = "write"
      · subst c2
        obtain ⟨v, rfl, bv⟩ := head_write hh
        unfold innD at ei
        dsimp only at ei
        rw [if_neg (by decide)] at ei
        have : c = [] := encs_nil (by injection ei)
        subst this
        cases v with
        | int i =>
          have bv : (decide (1 ≤ i) && decide (i ≤ 2000)) = true := bv
          simp only [Bool.and_eq_true, decide_eq_true_iff] at bv
          refine ⟨.write i.toNat, ?_, ?_, rfl⟩
          · rw [enc, Int.toNat_of_nonneg (by omega)]
          · rw [okA, Bool.and_eq_true, decide_eq_true_iff, decide_eq_true_iff]; omega
        | _ => cases bv
      · by_cases c3 : w = "fork"
        · subst c3
          obtain ⟨v, rfl, _⟩ := head_fork hh
          unfold innD at ei
          dsimp only at ei
          rw [if_pos (.inl rfl)] at ei
          have ei : v = .tup (encs c) := ei
          subst ei
          exact ⟨.fork c, by rw [enc], by rw [okA]; exact oc, rfl⟩
        · by_cases c4 : w = "repeat"
          · subst c4
            obtain ⟨v, y, rfl, bv, _⟩ := head_repeat hh
            unfold innD at ei
            dsimp only at ei
            rw [if_pos (.inr rfl)] at ei
            have ei : y = .tup (encs c) := ei
            subst ei
            cases v with
            | int i =>
              have bv : (decide (0 ≤ i) && decide (i ≤ 300)) = true := bv
              simp only [Bool.and_eq_true, decide_eq_true_iff] at bv
              refine ⟨.rep i.toNat c, ?_, ?_, rfl⟩
              · rw [enc, Int.toNat_of_nonneg (by omega)]
              · rw [okA, Bool.and_eq_true, decide_eq_true_iff]; exact ⟨by omega, oc⟩
            | _ => cases bv
          · unfold headL at hh
            dsimp only at hh
            rw [if_neg c1, if_neg c2, if_neg c3, if_neg c4] at hh
            cases hh
  | _ => cases hh
theorem dpt_eq {a : Ac} : dptA a = dptB (inn a) + 1 := by
  cases a with
  | bare w => rw [dptA, inn, dptB]
  | write n => rw [dptA, inn, dptB]
  | fork b => rw [dptA, inn]
  | rep n b => rw [dptA, inn]
/-! ### what is not wrong is a body -/
theorem wrg_none : ∀ (k : Nat) (p : List Nat) (xs : List D) (c d : Nat), k + p.length = 6 → wrg k p xs c = (none, d) → ∃ b, xs = encs b ∧ okB b = true ∧ d = c + cntB b ∧ dptB b ≤ k
  | 0, p, xs, c, d, hp, h => by
    rw [wrg] at h
    cases xs with
    | nil =>
      rw [wrgI] at h
      cases h
      exact ⟨[], by rw [encs], by rw [okB], by rw [cntB]; rfl, by rw [dptB]; exact Nat.zero_le _⟩
    | cons x xs =>
      rw [wrgI, if_pos (.inr (.inl (by omega)))] at h
      cases h
  | k + 1, p, xs, c, d, hp, h => by
    rw [wrg] at h
    have key : ∀ (ys : List D) (i c d : Nat), wrgI (wrg k) p i ys c = (none, d) → ∃ b, ys = encs b ∧ okB b = true ∧ d = c + cntB b ∧ dptB b ≤ k + 1 := by
      intro ys
      induction ys with
      | nil =>
        intro i c d h
        rw [wrgI] at h
        cases h
        exact ⟨[], by rw [encs], by rw [okB], by rw [cntB]; rfl, by rw [dptB]; exact Nat.zero_le _⟩
      | cons x ys ih =>
        intro i c d h
        rw [wrgI] at h
        by_cases c1 : headD x = false ∨ 6 < p.length + 1 ∨ 300 < c + 1
        · rw [if_pos c1] at h; cases h
        · rw [if_neg c1] at h
          have hx : headD x = true := by cases e : headD x with
            | true => rfl
            | false => exact absurd (.inl e) c1
          cases e : wrg k (p ++ [i]) (innL x) (c + 1) with
          | mk r d1 =>
            rw [e] at h
            cases r with
            | some w => cases h
            | none =>
              obtain ⟨b1, e1, o1, l1, k1⟩ := wrg_none k _ _ _ _ (by simp; omega) e
              obtain ⟨a, rfl, oa, rfl⟩ := enc_of hx o1 e1
              obtain ⟨b2, e2, o2, l2, k2⟩ := ih (i + 1) d1 d h
              refine ⟨a :: b2, by rw [encs, e2], by rw [okB, oa, o2]; rfl, ?_, ?_⟩
              · rw [cntB, cnt_inn]; omega
              · rw [dptB, dpt_eq]; omega
    exact key xs 0 c d h
/-- none wrong: a body, within the bounds of depth and number -/
theorem cnt_300 : ∀ (k : Nat) (p : List Nat) (xs : List D) (c d : Nat), c ≤ 300 → wrg k p xs c = (none, d) → d ≤ 300 := by
  have gen : ∀ (f : List Nat → List D → Nat → Option (List Nat) × Nat) (p : List Nat), (∀ q xs c d, c ≤ 300 → f q xs c = (none, d) → d ≤ 300) → ∀ (xs : List D) (i c d : Nat), c ≤ 300 → wrgI f p i xs c = (none, d) → d ≤ 300 := by
    intro f p hf xs
    induction xs with
    | nil => intro i c d hc h; rw [wrgI] at h; cases h; exact hc
    | cons x xs ih =>
      intro i c d hc h
      rw [wrgI] at h
      by_cases c1 : headD x = false ∨ 6 < p.length + 1 ∨ 300 < c + 1
      · rw [if_pos c1] at h; cases h
      · rw [if_neg c1] at h
        have : ¬ 300 < c + 1 := fun z => c1 (.inr (.inr z))
        cases e : f (p ++ [i]) (innL x) (c + 1) with
        | mk r d1 =>
          rw [e] at h
          cases r with
          | some w => cases h
          | none => exact ih _ _ _ (hf _ _ _ _ (by omega) e) h
  intro k
  induction k with
  | zero => intro p xs c d hc h; rw [wrg] at h; exact gen _ p (fun q xs c d hc h => by cases h; exact hc) xs 0 c d hc h
  | succ k ih => intro p xs c d hc h; rw [wrg] at h; exact gen _ p ih xs 0 c d hc h
structure Sound (b : List Ac) : Prop where
  ok : okB b = true
  dpt : dptB b ≤ 6
  cnt : cntB b ≤ 300
theorem fw_none {xs : List D} (h : fw xs = none) : ∃ b, xs = encs b ∧ Sound b := by
  unfold fw at h
  cases e : wrg 6 [] xs 0 with
  | mk r d =>
    rw [e] at h
    have h : r = none := h
    subst h
    obtain ⟨b, e1, o, l, k⟩ := wrg_none 6 [] xs 0 d rfl e
    have := cnt_300 6 [] xs 0 d (by decide) e
    exact ⟨b, e1, o, k, by omega⟩
/-! ### without the bounds -/
theorem wrg_free : ∀ (k j : Nat) (p : List Nat) (xs : List D) (c : Nat), j ≤ k → k + p.length = 6 → adp j xs = true → c + PX.cnt j xs ≤ 300 →
    (wrg k p xs c).1 = wr0 j p xs ∧ ((wrg k p xs c).1 = none → (wrg k p xs c).2 = c + PX.cnt j xs) := by
  have nil : ∀ (k : Nat) (p : List Nat) (c : Nat), wrg k p [] c = (none, c) := fun k p c => by cases k <;> rw [wrg, wrgI]
  intro k j
  induction j generalizing k with
  | zero =>
    intro p xs c _ _ ha _
    rw [adp] at ha
    cases xs with
    | nil => rw [nil, wr0, PX.cnt]; exact ⟨rfl, fun _ => rfl⟩
    | cons x xs => cases ha
  | succ j ih =>
    intro p xs c hj hp ha hc
    obtain ⟨k, rfl⟩ : ∃ k', k = k' + 1 := ⟨k - 1, by omega⟩
    rw [adp] at ha
    rw [PX.cnt] at hc ⊢
    rw [wrg, wr0]
    suffices key : ∀ i, (wrgI (wrg k) p i xs c).1 = wr0I (wr0 j) p i xs ∧ ((wrgI (wrg k) p i xs c).1 = none → (wrgI (wrg k) p i xs c).2 = c + (xs.map fun x => 1 + if headD x = true then PX.cnt j (innL x) else 0).sum) from key 0
    induction xs generalizing c with
    | nil => intro i; rw [wrgI, wr0I]; exact ⟨rfl, fun _ => rfl⟩
    | cons x xs ihx =>
      intro i
      rw [List.all_cons, Bool.and_eq_true] at ha
      rw [List.map_cons, List.sum_cons] at hc
      rw [wrgI, wr0I]
      cases hx : headD x with
      | false =>
        rw [if_pos (.inl rfl), if_pos rfl]
        exact ⟨rfl, fun h => by cases h⟩
      | true =>
        rw [hx] at hc
        rw [if_pos rfl] at hc
        rw [if_neg (by rintro (h | h | h); cases h; omega; omega), if_neg (by simp)]
        have a1 := ha.1
        rw [hx] at a1
        have a1 : adp j (innL x) = true := by simpa using a1
        obtain ⟨e1, e2⟩ := ih k (p ++ [i]) (innL x) (c + 1) (by omega) (by simp; omega) a1 (by omega)
        rw [← e1]
        cases e : wrg k (p ++ [i]) (innL x) (c + 1) with
        | mk r d1 =>
          rw [e] at e2
          cases r with
          | some w => exact ⟨rfl, fun h => by cases h⟩
          | none =>
            have e3 := e2 rfl
            dsimp only at e3 ⊢
            obtain ⟨f1, f2⟩ := ihx d1 ha.2 (by omega) (i + 1)
            refine ⟨f1, fun h => ?_⟩
            rw [f2 h, List.map_cons, List.sum_cons, hx, if_pos rfl]
            omega
theorem adp_encs : ∀ (n : Nat) (b : List Ac), okB b = true → dptB b ≤ n → adp n (encs b) = true
  | 0, b, _, h => by
    cases b with
    | nil => rw [encs, adp]; rfl
    | cons a r =>
      rw [dptB] at h
      have := dptA_pos (a := a)
      omega
  | n + 1, b, ok, h => by
    rw [adp, List.all_eq_true, encs_map]
    intro x hx
    obtain ⟨a, ha, rfl⟩ := List.mem_map.mp hx
    have oa : okA a = true := by
      clear h hx
      induction b with
      | nil => cases ha
      | cons y r ih =>
        obtain ⟨h1, h2⟩ := okB_cons ok
        rcases List.mem_cons.mp ha with rfl | ha
        · exact h1
        · exact ih h2 ha
    have da : dptA a ≤ n + 1 := by
      clear hx ok
      induction b with
      | nil => cases ha
      | cons y r ih =>
        rw [dptB] at h
        rcases List.mem_cons.mp ha with rfl | ha
        · omega
        · exact ih (by omega) ha
    rw [innL_enc oa, adp_encs n (inn a) (okA_inn oa) (by have := dpt_eq (a := a); omega)]
    simp
theorem cnt_encs : ∀ (n : Nat) (b : List Ac), okB b = true → PX.cnt n (encs b) ≤ cntB b
  | 0, b, _ => by rw [PX.cnt]; exact Nat.zero_le _
  | n + 1, [], _ => by rw [encs, PX.cnt]; exact Nat.zero_le _
  | n + 1, a :: r, ok => by
    obtain ⟨oa, or_⟩ := okB_cons ok
    have h1 := cnt_encs n (inn a) (okA_inn oa)
    have h2 := cnt_encs (n + 1) r or_
    rw [PX.cnt] at h2 ⊢
    rw [encs, List.map_cons, List.sum_cons, headD_ok oa, if_pos rfl, innL_enc oa, cntB, cnt_inn]
    omega
/-- bodies within bounds -/
theorem wr0_encs : ∀ (n : Nat) (p : List Nat) (b : List Ac), okB b = true → wr0 n p (encs b) = none
  | 0, p, b, _ => by rw [wr0]
  | n + 1, p, b, ok => by
    rw [wr0]
    suffices key : ∀ i, wr0I (wr0 n) p i (encs b) = none from key 0
    induction b with
    | nil => intro i; rw [encs, wr0I]
    | cons a r ih =>
      intro i
      obtain ⟨oa, or_⟩ := okB_cons ok
      rw [encs, wr0I, if_neg (by rw [headD_ok oa]; decide), innL_enc oa, wr0_encs n _ _ (okA_inn oa)]
      exact ih or_ (i + 1)
theorem fw_free {xs : List D} (ha : adp 6 xs = true) (hc : PX.cnt 6 xs ≤ 300) : fw xs = wr0 6 [] xs := (wrg_free 6 6 [] xs 0 (Nat.le_refl _) rfl ha (by omega)).1
theorem fw_sound {b : List Ac} (s : Sound b) : fw (encs b) = none := by
  rw [fw_free (adp_encs 6 b s.ok s.dpt) (Nat.le_trans (cnt_encs 6 b s.ok) s.cnt)]
  exact wr0_encs _ _ _ s.ok
end PX
namespace PX
open PySem PySem.Spec L2 C8 DL PK F1
theorem len_wrong_in (z : Ad) (n : Nat) : ∀ ds h Q X, S_wrong_in z n ds h Q X → ds.length = 3 := fun _ _ _ _ ⟨_, _, _, _, e, _⟩ => by rw [e]; rfl
theorem mo_wrong_in (z : Ad) (n : Nat) : MoF (S_wrong_in z n) := fun _ _ _ _ _ _ hq _ ⟨v0, v1, v2, v3, e, o0, o1, o2, o3, q⟩ => ⟨v0, v1, v2, v3, e, o0, o1, o2, o3, hq _ _ q⟩
theorem no_wrong_in (z : Ad) : ∀ ds h Q X, ¬ S_wrong_in z 0 ds h Q X := fun _ _ _ _ ⟨_, _, _, _, _, _, l, _⟩ => by omega
theorem len_first_wrong (z : Ad) : ∀ ds h Q X, S_first_wrong z ds h Q X → ds.length = 1 := fun _ _ _ _ ⟨_, e, _⟩ => by rw [e]; rfl
theorem mo_first_wrong (z : Ad) : MoF (S_first_wrong z) := fun _ _ _ _ _ _ hq _ ⟨v0, e, o0, q⟩ => ⟨v0, e, o0, hq _ _ q⟩
theorem Mk.mono {z : Ad} {xs : List D} {h : AH} {X X' : KX} {G G' : List Ac → Prop} (hx : ∀ d h, X d h → X' d h) (hg : ∀ b, G b → G' b) (m : Mk z xs h X G) : Mk z xs h X' G' :=
  ⟨fun p e h' s => hx _ _ (m.1 p e h' s), fun b e o f l h' s => hx _ _ (m.2.1 b e o f l h' s), fun b e o f l k h' s => hx _ _ (m.2.2.1 b e o f l k h' s), fun b e f => hg _ (m.2.2.2 b e f)⟩
theorem Mk.sub {z : Ad} {xs : List D} {h g : AH} {X : KX} {G : List Ac → Prop} (m : Mk z xs h X G) (s : Sub h g) : Mk z xs g X G :=
  ⟨fun p e h' t => m.1 p e h' (s.trans t), fun b e o f l h' t => m.2.1 b e o f l h' (s.trans t), fun b e o f l k h' t => m.2.2.1 b e o f l k h' (s.trans t), m.2.2.2⟩
theorem len_Program___init__ (z : Ad) : ∀ ds h Q X, S_Program___init__ z ds h Q X → ds.length = 2 := fun _ _ _ _ ⟨_, _, _, e, _⟩ => by rw [e]; rfl
theorem mo_Program___init__ (z : Ad) : MoF (S_Program___init__ z) := fun _ _ _ _ _ _ hq hx ⟨v0, v1, v2, e, o0, o1, q⟩ => ⟨v0, v1, v2, e, o0, o1, q.mono hx fun _ => hq _ _⟩
theorem len_Program_of (z : Ad) : ∀ ds h Q X, S_Program_of z ds h Q X → ds.length = 2 := fun _ _ _ _ ⟨_, _, e, _⟩ => by rw [e]; rfl
theorem mo_Program_of (z : Ad) : MoF (S_Program_of z) := fun _ _ _ _ _ _ hq hx ⟨v0, v1, e, o0, o1, q⟩ => ⟨v0, v1, e, o0, fun a h' s => hx _ _ (o1 a h' s), fun xs ex => (q xs ex).mono hx fun _ => hq _ _⟩
theorem num_cons {x : D} {l xs : List D} {i : Nat} (h : x :: l = numF i xs) : ∃ y ys, xs = y :: ys ∧ x = .tup [.int i, y] ∧ l = numF (i + 1) ys := by
  cases xs with
  | nil => cases h
  | cons y ys => rw [numF] at h; cases h; exact ⟨y, ys, rfl, rfl, rfl⟩
theorem num_nil {xs : List D} {i : Nat} (h : [] = numF i xs) : xs = [] := by
  cases xs with
  | nil => rfl
  | cons y ys => rw [numF] at h; cases h
theorem go_innD {z : Ad} {x : D} (h : headD x = true) {g : AH} {Q : KD} {X : KX} (q : Q (.tup (innL x)) g) : S_inner_of z [x] g Q X := by
  cases x with
  | tup xs => exact ⟨xs, rfl, h, by rw [innD_tup h]; exact q⟩
  | _ => cases h
theorem isN_seat {o : Option (List Nat)} {h : AH} {Q : KD} : dIsN (fun b => !b) (seatO o) .non h Q = Q (.bl o.isSome) h := by
  cases o <;> rfl
theorem p_wrong_in (z : Ad) (n : Nat) : ∀ ds h Q X, S_wrong_in z (n + 1) ds h Q X → w_wrong_in z n (endsD Q X) (startD 7 ds) h := by
  rintro ds h Q X ⟨xs, p, c, k, rfl, ht, hk, hp, hc, q⟩
  show w_wrong_in z n (endsD Q X) [some (.tup xs), some (plcD p), some (.int (c : Nat)), none, none, none, none] h
  obtain ⟨f, ef, eF⟩ : ∃ f, wrg k p xs c = wrgI f p 0 xs c ∧ (6 < p.length + 1 ∨ ∃ k', k = k' + 1 ∧ f = wrg k') := by
    cases k with
    | zero => exact ⟨_, by rw [wrg], .inl (by omega)⟩
    | succ k => exact ⟨wrg k, by rw [wrg], .inr ⟨k, rfl, rfl⟩⟩
  rw [ef] at q
  clear ef
  obtain ⟨hl, hm⟩ := th_tup ht
  unfold w_wrong_in
  ((try dsimp only); rw [u_seq]; (try simp only [u_asg, u_gN, u_ret, u_retN, u_skip, u_expr, u_ifs, u_c, u_op, u_neg, u_test, u_and, u_or, u_not, u_if, u_nil, u_cons, u_tup, u_lst, u_callP, u_call, u_b, u_chain, u_andV, u_addI, u_subI, u_mulI, u_divI, u_modI, u_powI, u_cmpI, u_eqI, u_eqS, u_eqB, u_abs, u_intI, u_intB, u_newT, u_newF, u_isN, u_notN, wVar, List.set_cons_zero, List.set_cons_succ, List.getElem?_cons_zero, List.getElem?_cons_succ, List.length_cons, List.length_nil, u_lc, u_for, u_r1, u_r2, u_r3, u_num, u_notV, u_yes, u_w0, u_w1, u_dput, u_get2, u_dget, u_prop, u_fld, u_setF, u_make, u_makeS, u_met, u_calO, u_orT, u_tupIt, u_dc, u_maxDd, u_dnew, u_tupi, ix_p0, ix_p1, wSl, woNone, woSome]))
  rw [numD_F]
  refine loop_rest (fun l ρ h' => ∃ i ys c2 a3 a4 a5 a6, l = numF i ys ∧ ρ = [some (.tup xs), some (plcD p), some (.int ((c2 : Nat) : Int)), a3, a4, a5, a6] ∧ h = h' ∧ (∀ y ∈ ys, th y = true) ∧ wrgI f p 0 xs c = wrgI f p i ys c2 ∧ c2 ≤ 301) (fun _ _ _ _ => trivial) ?_ ?_ _ _ _
    ⟨0, xs, c, _, _, _, _, rfl, rfl, rfl, hm, rfl, hc⟩
  · rintro x l _ _ K ⟨i, ys, c2, a3, a4, a5, a6, hl, rfl, rfl, hy, ew, c2b⟩ kk
    obtain ⟨y, ys, rfl, rfl, rfl⟩ := num_cons hl
    have ty := hy y (List.mem_cons_self ..)
    rw [wrgI] at ew
    refine go_t2 ?_
    dsimp only [List.set_cons_zero, List.set_cons_succ]
    ((try dsimp only); rw [u_seq]; (try simp only [u_asg, u_gN, u_ret, u_retN, u_skip, u_expr, u_ifs, u_c, u_op, u_neg, u_test, u_and, u_or, u_not, u_if, u_nil, u_cons, u_tup, u_lst, u_callP, u_call, u_b, u_chain, u_andV, u_addI, u_subI, u_mulI, u_divI, u_modI, u_powI, u_cmpI, u_eqI, u_eqS, u_eqB, u_abs, u_intI, u_intB, u_newT, u_newF, u_isN, u_notN, wVar, List.set_cons_zero, List.set_cons_succ, List.getElem?_cons_zero, List.getElem?_cons_succ, List.length_cons, List.length_nil, u_lc, u_for, u_r1, u_r2, u_r3, u_num, u_notV, u_yes, u_w0, u_w1, u_dput, u_get2, u_dget, u_prop, u_fld, u_setF, u_make, u_makeS, u_met, u_calO, u_orT, u_tupIt, u_dc, u_maxDd, u_dnew, u_tupi, ix_p0, ix_p1, wSl, woNone, woSome]))
    simp only [u_star, u_asg, u_gN, u_ret, u_retN, u_skip, u_expr, u_ifs, u_c, u_op, u_neg, u_test, u_and, u_or, u_not, u_if, u_nil, u_cons, u_tup, u_lst, u_callP, u_call, u_b, u_chain, u_andV, u_addI, u_subI, u_mulI, u_divI, u_modI, u_powI, u_cmpI, u_eqI, u_eqS, u_eqB, u_abs, u_intI, u_intB, u_newT, u_newF, u_isN, u_notN, wVar, List.set_cons_zero, List.set_cons_succ, List.getElem?_cons_zero, List.getElem?_cons_succ, List.length_cons, List.length_nil, u_lc, u_for, u_r1, u_r2, u_r3, u_num, u_notV, u_yes, u_w0, u_w1, u_dput, u_get2, u_dget, u_prop, u_fld, u_setF, u_make, u_makeS, u_met, u_calO, u_orT, u_tupIt, u_dc, u_maxDd, u_dnew, u_tupi, ix_p0, ix_p1, wSl, woNone, woSome]
    refine ⟨_, rfl, sz_le (by simp; omega), ?_⟩
    rw [plc_add]
    ((try dsimp only); rw [u_seq]; (try simp only [u_asg, u_gN, u_ret, u_retN, u_skip, u_expr, u_ifs, u_c, u_op, u_neg, u_test, u_and, u_or, u_not, u_if, u_nil, u_cons, u_tup, u_lst, u_callP, u_call, u_b, u_chain, u_andV, u_addI, u_subI, u_mulI, u_divI, u_modI, u_powI, u_cmpI, u_eqI, u_eqS, u_eqB, u_abs, u_intI, u_intB, u_newT, u_newF, u_isN, u_notN, wVar, List.set_cons_zero, List.set_cons_succ, List.getElem?_cons_zero, List.getElem?_cons_succ, List.length_cons, List.length_nil, u_lc, u_for, u_r1, u_r2, u_r3, u_num, u_notV, u_yes, u_w0, u_w1, u_dput, u_get2, u_dget, u_prop, u_fld, u_setF, u_make, u_makeS, u_met, u_calO, u_orT, u_tupIt, u_dc, u_maxDd, u_dnew, u_tupi, ix_p0, ix_p1, wSl, woNone, woSome]))
    refine seq_go (fun ρ h' => ¬ (headD y = false ∨ 6 < p.length + 1 ∨ 300 < c2 + 1) ∧ ρ = [some (.tup xs), some (plcD p), some (.int ((c2 : Int) + 1)), some (.int (i : Nat)), some y, some (plcD (p ++ [i])), a6] ∧ h = h') (fun K2 k2 => ?_) ?_
    · have out : (headD y = false ∨ 6 < p.length + 1 ∨ 300 < c2 + 1) → fin Q (.tup [plcD (p ++ [i]), .int ((c2 : Int) + 1)]) h := fun c1 => by
        rw [if_pos c1] at ew
        rw [ew] at q
        exact fin_of q
      have k2 := fun c1 => k2 _ _ ⟨c1, rfl, rfl⟩
      simp only [u_asg, u_gN, u_ret, u_retN, u_skip, u_expr, u_ifs, u_c, u_op, u_neg, u_test, u_and, u_or, u_not, u_if, u_nil, u_cons, u_tup, u_lst, u_callP, u_call, u_b, u_chain, u_andV, u_addI, u_subI, u_mulI, u_divI, u_modI, u_powI, u_cmpI, u_eqI, u_eqS, u_eqB, u_abs, u_intI, u_intB, u_newT, u_newF, u_isN, u_notN, wVar, List.set_cons_zero, List.set_cons_succ, List.getElem?_cons_zero, List.getElem?_cons_succ, List.length_cons, List.length_nil, u_lc, u_for, u_r1, u_r2, u_r3, u_num, u_notV, u_yes, u_w0, u_w1, u_dput, u_get2, u_dget, u_prop, u_fld, u_setF, u_make, u_makeS, u_met, u_calO, u_orT, u_tupIt, u_dc, u_maxDd, u_dnew, u_tupi, ix_p0, ix_p1, wSl, woNone, woSome]
      refine ⟨trivial, y, rfl, ty, ?_⟩
      cases hh : headD y with
      | false => exact ⟨by decide, out (.inl hh)⟩
      | true =>
        simp only [Bool.not_true, Bool.false_eq_true, if_false]
        rw [plcD, u_lenT]
        simp only [u_asg, u_gN, u_ret, u_retN, u_skip, u_expr, u_ifs, u_c, u_op, u_neg, u_test, u_and, u_or, u_not, u_if, u_nil, u_cons, u_tup, u_lst, u_callP, u_call, u_b, u_chain, u_andV, u_addI, u_subI, u_mulI, u_divI, u_modI, u_powI, u_cmpI, u_eqI, u_eqS, u_eqB, u_abs, u_intI, u_intB, u_newT, u_newF, u_isN, u_notN, wVar, List.set_cons_zero, List.set_cons_succ, List.getElem?_cons_zero, List.getElem?_cons_succ, List.length_cons, List.length_nil, u_lc, u_for, u_r1, u_r2, u_r3, u_num, u_notV, u_yes, u_w0, u_w1, u_dput, u_get2, u_dget, u_prop, u_fld, u_setF, u_make, u_makeS, u_met, u_calO, u_orT, u_tupIt, u_dc, u_maxDd, u_dnew, u_tupi, ix_p0, ix_p1, wSl, woNone, woSome]
        rw [← plcD]
        by_cases d1 : 6 < p.length + 1
        · rw [if_pos (decide_eq_true (by simp; omega))]
          exact ⟨by decide, out (.inr (.inl d1))⟩
        · rw [if_neg (by rw [decide_eq_false (by simp; omega)]; decide)]
          by_cases d2 : 300 < c2 + 1
          · rw [if_pos (decide_eq_true (by omega))]
            exact ⟨by decide, out (.inr (.inr d2))⟩
          · rw [if_neg (by rw [decide_eq_false (by omega)]; decide)]
            exact k2 (by rw [hh]; rintro (z | z | z); cases z; exact d1 z; exact d2 z)
    rintro _ _ ⟨c1, rfl, rfl⟩
    rw [if_neg c1] at ew
    have hh : headD y = true := by cases e : headD y with
      | true => rfl
      | false => exact absurd (.inl e) c1
    have d1 : ¬ 6 < p.length + 1 := fun z => c1 (.inr (.inl z))
    have d2 : ¬ 300 < c2 + 1 := fun z => c1 (.inr (.inr z))
    obtain ⟨k', rfl, rfl⟩ : ∃ k', k = k' + 1 ∧ f = wrg k' := by
      rcases eF with e | e
      · exact absurd e d1
      · exact e
    have it := inn_th hh ty
    ((try dsimp only); rw [u_seq]; (try simp only [u_asg, u_gN, u_ret, u_retN, u_skip, u_expr, u_ifs, u_c, u_op, u_neg, u_test, u_and, u_or, u_not, u_if, u_nil, u_cons, u_tup, u_lst, u_callP, u_call, u_b, u_chain, u_andV, u_addI, u_subI, u_mulI, u_divI, u_modI, u_powI, u_cmpI, u_eqI, u_eqS, u_eqB, u_abs, u_intI, u_intB, u_newT, u_newF, u_isN, u_notN, wVar, List.set_cons_zero, List.set_cons_succ, List.getElem?_cons_zero, List.getElem?_cons_succ, List.length_cons, List.length_nil, u_lc, u_for, u_r1, u_r2, u_r3, u_num, u_notV, u_yes, u_w0, u_w1, u_dput, u_get2, u_dget, u_prop, u_fld, u_setF, u_make, u_makeS, u_met, u_calO, u_orT, u_tupIt, u_dc, u_maxDd, u_dnew, u_tupi, ix_p0, ix_p1, wSl, woNone, woSome]))
    refine ⟨trivial, go_innD hh ⟨trivial, innL y, p ++ [i], c2 + 1, k', rfl, it.1, by omega, by simp; omega, by omega, ?_⟩⟩
    refine go_t2 ?_
    dsimp only [List.set_cons_zero, List.set_cons_succ]
    simp only [u_asg, u_gN, u_ret, u_retN, u_skip, u_expr, u_ifs, u_c, u_op, u_neg, u_test, u_and, u_or, u_not, u_if, u_nil, u_cons, u_tup, u_lst, u_callP, u_call, u_b, u_chain, u_andV, u_addI, u_subI, u_mulI, u_divI, u_modI, u_powI, u_cmpI, u_eqI, u_eqS, u_eqB, u_abs, u_intI, u_intB, u_newT, u_newF, u_isN, u_notN, wVar, List.set_cons_zero, List.set_cons_succ, List.getElem?_cons_zero, List.getElem?_cons_succ, List.length_cons, List.length_nil, u_lc, u_for, u_r1, u_r2, u_r3, u_num, u_notV, u_yes, u_w0, u_w1, u_dput, u_get2, u_dget, u_prop, u_fld, u_setF, u_make, u_makeS, u_met, u_calO, u_orT, u_tupIt, u_dc, u_maxDd, u_dnew, u_tupi, ix_p0, ix_p1, wSl, woNone, woSome]
    rw [isN_seat]
    cases e : wrg k' (p ++ [i]) (innL y) (c2 + 1) with
    | mk r d =>
      rw [e] at ew
      cases r with
      | some w =>
        rw [ew] at q
        dsimp only [Option.isSome]
        rw [if_pos rfl]
        exact ⟨by decide, fin_of q⟩
      | none =>
        have := cnt_300 _ _ _ _ _ (by omega) e
        dsimp only [Option.isSome]
        rw [if_neg (by decide)]
        exact kk _ _ ⟨i + 1, ys, d, _, _, _, _, rfl, rfl, rfl, fun u hu => hy u (List.mem_cons_of_mem _ hu), ew, by omega⟩
  · rintro _ _ ⟨i, ys, c2, a3, a4, a5, a6, hl, rfl, rfl, hy, ew, c2b⟩
    obtain rfl := num_nil hl
    rw [wrgI] at ew
    rw [ew] at q
    simp only [u_asg, u_gN, u_ret, u_retN, u_skip, u_expr, u_ifs, u_c, u_op, u_neg, u_test, u_and, u_or, u_not, u_if, u_nil, u_cons, u_tup, u_lst, u_callP, u_call, u_b, u_chain, u_andV, u_addI, u_subI, u_mulI, u_divI, u_modI, u_powI, u_cmpI, u_eqI, u_eqS, u_eqB, u_abs, u_intI, u_intB, u_newT, u_newF, u_isN, u_notN, wVar, List.set_cons_zero, List.set_cons_succ, List.getElem?_cons_zero, List.getElem?_cons_succ, List.length_cons, List.length_nil, u_lc, u_for, u_r1, u_r2, u_r3, u_num, u_notV, u_yes, u_w0, u_w1, u_dput, u_get2, u_dget, u_prop, u_fld, u_setF, u_make, u_makeS, u_met, u_calO, u_orT, u_tupIt, u_dc, u_maxDd, u_dnew, u_tupi, ix_p0, ix_p1, wSl, woNone, woSome]
    exact ⟨by decide, fin_of q⟩
theorem p_first_wrong (z : Ad) : ∀ ds h Q X, S_first_wrong z ds h Q X → w_first_wrong z (endsD Q X) (startD 1 ds) h := by
  rintro ds h Q X ⟨xs, rfl, ht, q⟩
  show w_first_wrong z (endsD Q X) [some (.tup xs)] h
  simp only [w_first_wrong, u_asg, u_gN, u_ret, u_retN, u_skip, u_expr, u_ifs, u_c, u_op, u_neg, u_test, u_and, u_or, u_not, u_if, u_nil, u_cons, u_tup, u_lst, u_callP, u_call, u_b, u_chain, u_andV, u_addI, u_subI, u_mulI, u_divI, u_modI, u_powI, u_cmpI, u_eqI, u_eqS, u_eqB, u_abs, u_intI, u_intB, u_newT, u_newF, u_isN, u_notN, wVar, List.set_cons_zero, List.set_cons_succ, List.getElem?_cons_zero, List.getElem?_cons_succ, List.length_cons, List.length_nil, u_lc, u_for, u_r1, u_r2, u_r3, u_num, u_notV, u_yes, u_w0, u_w1, u_dput, u_get2, u_dget, u_prop, u_fld, u_setF, u_make, u_makeS, u_met, u_calO, u_orT, u_tupIt, u_dc, u_maxDd, u_dnew, u_tupi, ix_p0, ix_p1, wSl, woNone, woSome]
  refine ⟨by decide, trivial, xs, [], 0, 6, rfl, ht, by decide, rfl, by decide, ?_⟩
  dsimp only
  rw [u_ixTd at0]
  exact fin_of q
theorem p_Program___init__ (z : Ad) : ∀ ds h Q X, S_Program___init__ z ds h Q X → w_Program___init__ z (endsD Q X) (startD 5 ds) h := by
  rintro ds h Q X ⟨lm, a, xs, rfl, ha, ht, m⟩
  show w_Program___init__ z (endsD Q X) [some (.ref a), some (.tup xs), none, none, none] h
  obtain ⟨m1, m2, m3, q⟩ := m
  unfold w_Program___init__
  ((try dsimp only); rw [u_seq]; (try simp only [u_asg, u_gN, u_ret, u_retN, u_skip, u_expr, u_ifs, u_c, u_op, u_neg, u_test, u_and, u_or, u_not, u_if, u_nil, u_cons, u_tup, u_lst, u_callP, u_call, u_b, u_chain, u_andV, u_addI, u_subI, u_mulI, u_divI, u_modI, u_powI, u_cmpI, u_eqI, u_eqS, u_eqB, u_abs, u_intI, u_intB, u_newT, u_newF, u_isN, u_notN, wVar, List.set_cons_zero, List.set_cons_succ, List.getElem?_cons_zero, List.getElem?_cons_succ, List.length_cons, List.length_nil, u_lc, u_for, u_r1, u_r2, u_r3, u_num, u_notV, u_yes, u_w0, u_w1, u_dput, u_get2, u_dget, u_prop, u_fld, u_setF, u_make, u_makeS, u_met, u_calO, u_orT, u_tupIt, u_dc, u_maxDd, u_dnew, u_tupi, ix_p0, ix_p1, wSl, woNone, woSome]))
  refine ⟨trivial, xs, rfl, ht, ?_⟩
  ((try dsimp only); rw [u_seq]; (try simp only [u_asg, u_gN, u_ret, u_retN, u_skip, u_expr, u_ifs, u_c, u_op, u_neg, u_test, u_and, u_or, u_not, u_if, u_nil, u_cons, u_tup, u_lst, u_callP, u_call, u_b, u_chain, u_andV, u_addI, u_subI, u_mulI, u_divI, u_modI, u_powI, u_cmpI, u_eqI, u_eqS, u_eqB, u_abs, u_intI, u_intB, u_newT, u_newF, u_isN, u_notN, wVar, List.set_cons_zero, List.set_cons_succ, List.getElem?_cons_zero, List.getElem?_cons_succ, List.length_cons, List.length_nil, u_lc, u_for, u_r1, u_r2, u_r3, u_num, u_notV, u_yes, u_w0, u_w1, u_dput, u_get2, u_dget, u_prop, u_fld, u_setF, u_make, u_makeS, u_met, u_calO, u_orT, u_tupIt, u_dc, u_maxDd, u_dnew, u_tupi, ix_p0, ix_p1, wSl, woNone, woSome]))
  rw [isN_seat]
  cases e : fw xs with
  | some p =>
    dsimp only [Option.isSome]
    rw [if_pos rfl]
    simp only [u_raise, u_asg, u_gN, u_ret, u_retN, u_skip, u_expr, u_ifs, u_c, u_op, u_neg, u_test, u_and, u_or, u_not, u_if, u_nil, u_cons, u_tup, u_lst, u_callP, u_call, u_b, u_chain, u_andV, u_addI, u_subI, u_mulI, u_divI, u_modI, u_powI, u_cmpI, u_eqI, u_eqS, u_eqB, u_abs, u_intI, u_intB, u_newT, u_newF, u_isN, u_notN, wVar, List.set_cons_zero, List.set_cons_succ, List.getElem?_cons_zero, List.getElem?_cons_succ, List.length_cons, List.length_nil, u_lc, u_for, u_r1, u_r2, u_r3, u_num, u_notV, u_yes, u_w0, u_w1, u_dput, u_get2, u_dget, u_prop, u_fld, u_setF, u_make, u_makeS, u_met, u_calO, u_orT, u_tupIt, u_dc, u_maxDd, u_dnew, u_tupi, ix_p0, ix_p1, wSl, woNone, woSome]
    exact ⟨trivial, m1 p e h (Sub.refl h)⟩
  | none =>
    dsimp only [Option.isSome]
    rw [if_neg (by decide)]
    obtain ⟨b, rfl, s⟩ := fw_none e
    have d := s.dpt
    ((try dsimp only); rw [u_seq]; (try simp only [u_asg, u_gN, u_ret, u_retN, u_skip, u_expr, u_ifs, u_c, u_op, u_neg, u_test, u_and, u_or, u_not, u_if, u_nil, u_cons, u_tup, u_lst, u_callP, u_call, u_b, u_chain, u_andV, u_addI, u_subI, u_mulI, u_divI, u_modI, u_powI, u_cmpI, u_eqI, u_eqS, u_eqB, u_abs, u_intI, u_intB, u_newT, u_newF, u_isN, u_notN, wVar, List.set_cons_zero, List.set_cons_succ, List.getElem?_cons_zero, List.getElem?_cons_succ, List.length_cons, List.length_nil, u_lc, u_for, u_r1, u_r2, u_r3, u_num, u_notV, u_yes, u_w0, u_w1, u_dput, u_get2, u_dget, u_prop, u_fld, u_setF, u_make, u_makeS, u_met, u_calO, u_orT, u_tupIt, u_dc, u_maxDd, u_dnew, u_tupi, ix_p0, ix_p1, wSl, woNone, woSome]))
    refine ⟨trivial, b, rfl, s.ok, by omega, ?_⟩
    ((try dsimp only); rw [u_seq]; (try simp only [u_asg, u_gN, u_ret, u_retN, u_skip, u_expr, u_ifs, u_c, u_op, u_neg, u_test, u_and, u_or, u_not, u_if, u_nil, u_cons, u_tup, u_lst, u_callP, u_call, u_b, u_chain, u_andV, u_addI, u_subI, u_mulI, u_divI, u_modI, u_powI, u_cmpI, u_eqI, u_eqS, u_eqB, u_abs, u_intI, u_intB, u_newT, u_newF, u_isN, u_notN, wVar, List.set_cons_zero, List.set_cons_succ, List.getElem?_cons_zero, List.getElem?_cons_succ, List.length_cons, List.length_nil, u_lc, u_for, u_r1, u_r2, u_r3, u_num, u_notV, u_yes, u_w0, u_w1, u_dput, u_get2, u_dget, u_prop, u_fld, u_setF, u_make, u_makeS, u_met, u_calO, u_orT, u_tupIt, u_dc, u_maxDd, u_dnew, u_tupi, ix_p0, ix_p1, wSl, woNone, woSome]))
    by_cases c1 : 2000 < sizB b
    · rw [if_pos (decide_eq_true (by omega))]
      simp only [u_raise, u_asg, u_gN, u_ret, u_retN, u_skip, u_expr, u_ifs, u_c, u_op, u_neg, u_test, u_and, u_or, u_not, u_if, u_nil, u_cons, u_tup, u_lst, u_callP, u_call, u_b, u_chain, u_andV, u_addI, u_subI, u_mulI, u_divI, u_modI, u_powI, u_cmpI, u_eqI, u_eqS, u_eqB, u_abs, u_intI, u_intB, u_newT, u_newF, u_isN, u_notN, wVar, List.set_cons_zero, List.set_cons_succ, List.getElem?_cons_zero, List.getElem?_cons_succ, List.length_cons, List.length_nil, u_lc, u_for, u_r1, u_r2, u_r3, u_num, u_notV, u_yes, u_w0, u_w1, u_dput, u_get2, u_dget, u_prop, u_fld, u_setF, u_make, u_makeS, u_met, u_calO, u_orT, u_tupIt, u_dc, u_maxDd, u_dnew, u_tupi, ix_p0, ix_p1, wSl, woNone, woSome]
      exact ⟨trivial, m2 b rfl s.ok e c1 h (Sub.refl h)⟩
    rw [if_neg (by rw [decide_eq_false (by omega)]; decide)]
    ((try dsimp only); rw [u_seq]; (try simp only [u_asg, u_gN, u_ret, u_retN, u_skip, u_expr, u_ifs, u_c, u_op, u_neg, u_test, u_and, u_or, u_not, u_if, u_nil, u_cons, u_tup, u_lst, u_callP, u_call, u_b, u_chain, u_andV, u_addI, u_subI, u_mulI, u_divI, u_modI, u_powI, u_cmpI, u_eqI, u_eqS, u_eqB, u_abs, u_intI, u_intB, u_newT, u_newF, u_isN, u_notN, wVar, List.set_cons_zero, List.set_cons_succ, List.getElem?_cons_zero, List.getElem?_cons_succ, List.length_cons, List.length_nil, u_lc, u_for, u_r1, u_r2, u_r3, u_num, u_notV, u_yes, u_w0, u_w1, u_dput, u_get2, u_dget, u_prop, u_fld, u_setF, u_make, u_makeS, u_met, u_calO, u_orT, u_tupIt, u_dc, u_maxDd, u_dnew, u_tupi, ix_p0, ix_p1, wSl, woNone, woSome]))
    refine ⟨trivial, b, rfl, s.ok, by omega, by omega, ?_⟩
    ((try dsimp only); rw [u_seq]; (try simp only [u_asg, u_gN, u_ret, u_retN, u_skip, u_expr, u_ifs, u_c, u_op, u_neg, u_test, u_and, u_or, u_not, u_if, u_nil, u_cons, u_tup, u_lst, u_callP, u_call, u_b, u_chain, u_andV, u_addI, u_subI, u_mulI, u_divI, u_modI, u_powI, u_cmpI, u_eqI, u_eqS, u_eqB, u_abs, u_intI, u_intB, u_newT, u_newF, u_isN, u_notN, wVar, List.set_cons_zero, List.set_cons_succ, List.getElem?_cons_zero, List.getElem?_cons_succ, List.length_cons, List.length_nil, u_lc, u_for, u_r1, u_r2, u_r3, u_num, u_notV, u_yes, u_w0, u_w1, u_dput, u_get2, u_dget, u_prop, u_fld, u_setF, u_make, u_makeS, u_met, u_calO, u_orT, u_tupIt, u_dc, u_maxDd, u_dnew, u_tupi, ix_p0, ix_p1, wSl, woNone, woSome]))
    by_cases c2 : 2000 < rchB b
    · rw [if_pos (decide_eq_true (by omega))]
      simp only [u_raise, u_asg, u_gN, u_ret, u_retN, u_skip, u_expr, u_ifs, u_c, u_op, u_neg, u_test, u_and, u_or, u_not, u_if, u_nil, u_cons, u_tup, u_lst, u_callP, u_call, u_b, u_chain, u_andV, u_addI, u_subI, u_mulI, u_divI, u_modI, u_powI, u_cmpI, u_eqI, u_eqS, u_eqB, u_abs, u_intI, u_intB, u_newT, u_newF, u_isN, u_notN, wVar, List.set_cons_zero, List.set_cons_succ, List.getElem?_cons_zero, List.getElem?_cons_succ, List.length_cons, List.length_nil, u_lc, u_for, u_r1, u_r2, u_r3, u_num, u_notV, u_yes, u_w0, u_w1, u_dput, u_get2, u_dget, u_prop, u_fld, u_setF, u_make, u_makeS, u_met, u_calO, u_orT, u_tupIt, u_dc, u_maxDd, u_dnew, u_tupi, ix_p0, ix_p1, wSl, woNone, woSome]
      exact ⟨trivial, m3 b rfl s.ok e (by omega) c2 h (Sub.refl h)⟩
    rw [if_neg (by rw [decide_eq_false (by omega)]; decide)]
    have q := q b rfl ⟨s.ok, s.dpt, s.cnt, by omega, by omega⟩
    rw [u_orS]
    cases lm with
    | false =>
      refine .inl ?_
      simp only [u_asg, u_gN, u_ret, u_retN, u_skip, u_expr, u_ifs, u_c, u_op, u_neg, u_test, u_and, u_or, u_not, u_if, u_nil, u_cons, u_tup, u_lst, u_callP, u_call, u_b, u_chain, u_andV, u_addI, u_subI, u_mulI, u_divI, u_modI, u_powI, u_cmpI, u_eqI, u_eqS, u_eqB, u_abs, u_intI, u_intB, u_newT, u_newF, u_isN, u_notN, wVar, List.set_cons_zero, List.set_cons_succ, List.getElem?_cons_zero, List.getElem?_cons_succ, List.length_cons, List.length_nil, u_lc, u_for, u_r1, u_r2, u_r3, u_num, u_notV, u_yes, u_w0, u_w1, u_dput, u_get2, u_dget, u_prop, u_fld, u_setF, u_make, u_makeS, u_met, u_calO, u_orT, u_tupIt, u_dc, u_maxDd, u_dnew, u_tupi, ix_p0, ix_p1, wSl, woNone, woSome]
      exact ⟨a, [], rfl, ha, by decide, fin_of q⟩
    | true =>
      refine .inr ?_
      simp only [u_asg, u_gN, u_ret, u_retN, u_skip, u_expr, u_ifs, u_c, u_op, u_neg, u_test, u_and, u_or, u_not, u_if, u_nil, u_cons, u_tup, u_lst, u_callP, u_call, u_b, u_chain, u_andV, u_addI, u_subI, u_mulI, u_divI, u_modI, u_powI, u_cmpI, u_eqI, u_eqS, u_eqB, u_abs, u_intI, u_intB, u_newT, u_newF, u_isN, u_notN, wVar, List.set_cons_zero, List.set_cons_succ, List.getElem?_cons_zero, List.getElem?_cons_succ, List.length_cons, List.length_nil, u_lc, u_for, u_r1, u_r2, u_r3, u_num, u_notV, u_yes, u_w0, u_w1, u_dput, u_get2, u_dget, u_prop, u_fld, u_setF, u_make, u_makeS, u_met, u_calO, u_orT, u_tupIt, u_dc, u_maxDd, u_dnew, u_tupi, ix_p0, ix_p1, wSl, woNone, woSome]
      exact ⟨a, [], rfl, ha, by decide, fin_of q⟩
/-- the making of a program, of what stands in a tuple -/
theorem mk_go {z : Ad} {lm : Bool} {xs : List D} {h : AH} {Q : KD} {X : KX} (ht : th (.tup xs) = true) (m : Mk z xs h X (fun b => Q (prog z lm b) h)) : ∀ a, h a = none → (starS 1 (S_Program___init__ z)) (.ref a :: xs) (up h a (.ins (clsOf z lm) [])) (fun v h2 => v = .non ∧ ∃ fs, h2 a = some (.ins (clsOf z lm) fs) ∧ Q (.ob (clsOf z lm) fs) (rm h2 a)) X := by
  intro a ha
  obtain ⟨hl, _⟩ := th_tup ht
  have m := m.sub (sub_up (o := .ins (clsOf z lm) []) ha)
  refine ⟨by simp, sz_le (by simp; omega), lm, a, xs, rfl, up_same, ht, m.mono (fun _ _ z => z) fun b q => ⟨rfl, _, up_same, ?_⟩⟩
  rw [up_up, rm_up, rm_none ha]
  exact q
theorem Mk.fin {z : Ad} {xs : List D} {h : AH} {X : KX} {Q : KD} {lm : Bool} (m : Mk z xs h X (fun b => Q (prog z lm b) h)) : Mk z xs h X (fun b => fin Q (prog z lm b) h) := m.mono (fun _ _ z => z) fun _ q => fin_of q
theorem p_Program_of (z : Ad) : ∀ ds h Q X, S_Program_of z ds h Q X → w_Program_of z (endsD Q X) (startD 2 ds) h := by
  rintro ds h Q X ⟨lm, x, rfl, hx, hn, m⟩
  show w_Program_of z (endsD Q X) [some (.ref (clsOf z lm)), some x] h
  unfold w_Program_of
  ((try dsimp only); rw [u_seq]; (try simp only [u_asg, u_gN, u_ret, u_retN, u_skip, u_expr, u_ifs, u_c, u_op, u_neg, u_test, u_and, u_or, u_not, u_if, u_nil, u_cons, u_tup, u_lst, u_callP, u_call, u_b, u_chain, u_andV, u_addI, u_subI, u_mulI, u_divI, u_modI, u_powI, u_cmpI, u_eqI, u_eqS, u_eqB, u_abs, u_intI, u_intB, u_newT, u_newF, u_isN, u_notN, wVar, List.set_cons_zero, List.set_cons_succ, List.getElem?_cons_zero, List.getElem?_cons_succ, List.length_cons, List.length_nil, u_lc, u_for, u_r1, u_r2, u_r3, u_num, u_notV, u_yes, u_w0, u_w1, u_dput, u_get2, u_dget, u_prop, u_fld, u_setF, u_make, u_makeS, u_met, u_calO, u_orT, u_tupIt, u_dc, u_maxDd, u_dnew, u_tupi, ix_p0, ix_p1, wSl, woNone, woSome]))
  refine go_tup hx ?_
  cases t : isTup x with
  | false =>
    simp only [Bool.not_false, if_true]
    simp only [u_raise, u_asg, u_gN, u_ret, u_retN, u_skip, u_expr, u_ifs, u_c, u_op, u_neg, u_test, u_and, u_or, u_not, u_if, u_nil, u_cons, u_tup, u_lst, u_callP, u_call, u_b, u_chain, u_andV, u_addI, u_subI, u_mulI, u_divI, u_modI, u_powI, u_cmpI, u_eqI, u_eqS, u_eqB, u_abs, u_intI, u_intB, u_newT, u_newF, u_isN, u_notN, wVar, List.set_cons_zero, List.set_cons_succ, List.getElem?_cons_zero, List.getElem?_cons_succ, List.length_cons, List.length_nil, u_lc, u_for, u_r1, u_r2, u_r3, u_num, u_notV, u_yes, u_w0, u_w1, u_dput, u_get2, u_dget, u_prop, u_fld, u_setF, u_make, u_makeS, u_met, u_calO, u_orT, u_tupIt, u_dc, u_maxDd, u_dnew, u_tupi, ix_p0, ix_p1, wSl, woNone, woSome]
    exact ⟨Nat.zero_le _, trivial, hn t h (Sub.refl h)⟩
  | true =>
    obtain ⟨xs, rfl⟩ := tup_of t
    simp only [Bool.not_true, Bool.false_eq_true, if_false]
    have key := mk_go (z := z) (lm := lm) hx (m xs rfl).fin
    cases lm with
    | false => exact .inl ⟨rfl, _, rfl, key⟩
    | true => exact .inr ⟨rfl, _, rfl, key⟩
end PX
namespace PX
open PySem PySem.Spec L2 C8 DL PK F1
theorem lt_sz {n : Nat} (h : n < 16000) : n < sizeLine := Nat.lt_of_lt_of_le h (by decide)
theorem isX_go {M : XTab} {C : Addr} {fs : List (Str × D)} {c : D} {b : Bool} {h : AH} {Q : KD} (hm : (C, c, b) ∈ M) (q : Q (.bl b) h) : dIsX M [.xob C fs, c] h Q := ⟨C, fs, c, b, rfl, hm, q⟩
theorem isN_xob {C : Addr} {fs : List (Str × D)} {h : AH} {Q : KD} : dIsN (fun b => b) (.xob C fs) .non h Q = Q (.bl false) h := rfl
theorem any3 {M : XTab} {C : Addr} {a b c : D} (h1 : (C, a, false) ∈ M) (h2 : (C, b, false) ∈ M) (h3 : (C, c, false) ∈ M) : IsAny M C [a, b, c] false := .cons h1 (.cons h2 (.cons h3 .nil))
theorem ints3 {i : Int} {f : Bool} {h : AH} {Q : KD} (q : Q (.bl (if f then !inD (.int i) [.int 1, .int 2, .int 3] else inD (.int i) [.int 1, .int 2, .int 3])) h) : dIn f (.int i) (.tup [.int 1, .int 2, .int 3]) h Q := ⟨_, rfl, rfl, rfl, q⟩
theorem ints2 {i : Int} {f : Bool} {h : AH} {Q : KD} (q : Q (.bl (if f then !inD (.int i) [.int 2, .int 3] else inD (.int i) [.int 2, .int 3])) h) : dIn f (.int i) (.tup [.int 2, .int 3]) h Q := ⟨_, rfl, rfl, rfl, q⟩
theorem fl_b3 (a b c : Bool) : Fl (.lst [.bl a, .bl b, .bl c]) 1 := fl_lst fun x hx => by
  rcases List.mem_cons.mp hx with rfl | hx
  · exact fl_bl _
  · rcases List.mem_cons.mp hx with rfl | hx
    · exact fl_bl _
    · obtain rfl : x = .bl c := by simpa using hx
      exact fl_bl _
theorem p__law_heard (z : Ad) : ∀ d tl, MoK tl → ∀ h Q X, S__law_heard z tl h Q X → w__law_heard z d tl (endsD Q X) (startD 7 [d]) h := by
  intro d tl mt h Q X q
  show w__law_heard z d tl (endsD Q X) [some d, none, none, none, none, none, none] h
  unfold w__law_heard
  ((try dsimp only); rw [u_seq]; (try simp only [u_asg, u_gN, u_ret, u_retN, u_skip, u_expr, u_ifs, u_c, u_op, u_neg, u_test, u_and, u_or, u_not, u_if, u_nil, u_cons, u_tup, u_lst, u_callP, u_call, u_b, u_chain, u_andV, u_addI, u_subI, u_mulI, u_divI, u_modI, u_powI, u_cmpI, u_eqI, u_eqS, u_eqB, u_abs, u_intI, u_intB, u_newT, u_newF, u_isN, u_notN, wVar, List.set_cons_zero, List.set_cons_succ, List.getElem?_cons_zero, List.getElem?_cons_succ, List.length_cons, List.length_nil, u_lc, u_for, u_r1, u_r2, u_r3, u_num, u_notV, u_yes, u_w0, u_w1, u_dput, u_get2, u_dget, u_prop, u_fld, u_setF, u_make, u_makeS, u_met, u_calO, u_orT, u_tupIt, u_dc, u_maxDd, u_dnew, u_tupi, ix_p0, ix_p1, wSl, woNone, woSome]))
  ((try dsimp only); rw [u_seq]; (try simp only [u_asg, u_gN, u_ret, u_retN, u_skip, u_expr, u_ifs, u_c, u_op, u_neg, u_test, u_and, u_or, u_not, u_if, u_nil, u_cons, u_tup, u_lst, u_callP, u_call, u_b, u_chain, u_andV, u_addI, u_subI, u_mulI, u_divI, u_modI, u_powI, u_cmpI, u_eqI, u_eqS, u_eqB, u_abs, u_intI, u_intB, u_newT, u_newF, u_isN, u_notN, wVar, List.set_cons_zero, List.set_cons_succ, List.getElem?_cons_zero, List.getElem?_cons_succ, List.length_cons, List.length_nil, u_lc, u_for, u_r1, u_r2, u_r3, u_num, u_notV, u_yes, u_w0, u_w1, u_dput, u_get2, u_dget, u_prop, u_fld, u_setF, u_make, u_makeS, u_met, u_calO, u_orT, u_tupIt, u_dc, u_maxDd, u_dnew, u_tupi, ix_p0, ix_p1, wSl, woNone, woSome]))
  rw [u_seq, u_try, u_asg]
  refine ⟨rfl, mt _ _ _ _ _ (fun d h' q => ?_) (fun x h' q => ?_) q⟩
  · rw [u_gN]
    dsimp only [List.set_cons_zero, List.set_cons_succ]
    ((try dsimp only); rw [u_seq]; (try simp only [u_asg, u_gN, u_ret, u_retN, u_skip, u_expr, u_ifs, u_c, u_op, u_neg, u_test, u_and, u_or, u_not, u_if, u_nil, u_cons, u_tup, u_lst, u_callP, u_call, u_b, u_chain, u_andV, u_addI, u_subI, u_mulI, u_divI, u_modI, u_powI, u_cmpI, u_eqI, u_eqS, u_eqB, u_abs, u_intI, u_intB, u_newT, u_newF, u_isN, u_notN, wVar, List.set_cons_zero, List.set_cons_succ, List.getElem?_cons_zero, List.getElem?_cons_succ, List.length_cons, List.length_nil, u_lc, u_for, u_r1, u_r2, u_r3, u_num, u_notV, u_yes, u_w0, u_w1, u_dput, u_get2, u_dget, u_prop, u_fld, u_setF, u_make, u_makeS, u_met, u_calO, u_orT, u_tupIt, u_dc, u_maxDd, u_dnew, u_tupi, ix_p0, ix_p1, wSl, woNone, woSome]))
    rw [if_pos trivial]
    exact ⟨by decide, fin_of q⟩
  · obtain ⟨C, fs, w, v, rfl, hx, q⟩ := q
    cases hx with
    | prg v =>
      refine ⟨by simp [errs], ?_⟩
      dsimp only [List.replicate, List.set_cons_succ, List.set_cons_zero]
      rw [u_seq]
      simp only [u_asg, u_gN, u_ret, u_retN, u_skip, u_expr, u_ifs, u_c, u_op, u_neg, u_test, u_and, u_or, u_not, u_if, u_nil, u_cons, u_tup, u_lst, u_callP, u_call, u_b, u_chain, u_andV, u_addI, u_subI, u_mulI, u_divI, u_modI, u_powI, u_cmpI, u_eqI, u_eqS, u_eqB, u_abs, u_intI, u_intB, u_newT, u_newF, u_isN, u_notN, wVar, List.set_cons_zero, List.set_cons_succ, List.getElem?_cons_zero, List.getElem?_cons_succ, List.length_cons, List.length_nil, u_lc, u_for, u_r1, u_r2, u_r3, u_num, u_notV, u_yes, u_w0, u_w1, u_dput, u_get2, u_dget, u_prop, u_fld, u_setF, u_make, u_makeS, u_met, u_calO, u_orT, u_tupIt, u_dc, u_maxDd, u_dnew, u_tupi, ix_p0, ix_p1, wSl, woNone, woSome]
      rw [isN_xob]
      simp only [Bool.false_eq_true, if_false]
      ((try dsimp only); rw [u_seq]; (try simp only [u_asg, u_gN, u_ret, u_retN, u_skip, u_expr, u_ifs, u_c, u_op, u_neg, u_test, u_and, u_or, u_not, u_if, u_nil, u_cons, u_tup, u_lst, u_callP, u_call, u_b, u_chain, u_andV, u_addI, u_subI, u_mulI, u_divI, u_modI, u_powI, u_cmpI, u_eqI, u_eqS, u_eqB, u_abs, u_intI, u_intB, u_newT, u_newF, u_isN, u_notN, wVar, List.set_cons_zero, List.set_cons_succ, List.getElem?_cons_zero, List.getElem?_cons_succ, List.length_cons, List.length_nil, u_lc, u_for, u_r1, u_r2, u_r3, u_num, u_notV, u_yes, u_w0, u_w1, u_dput, u_get2, u_dget, u_prop, u_fld, u_setF, u_make, u_makeS, u_met, u_calO, u_orT, u_tupIt, u_dc, u_maxDd, u_dnew, u_tupi, ix_p0, ix_p1, wSl, woNone, woSome]))
      refine isX_go (b := true) (by simp [xtab]) ((isX_go (b := false) (by simp [xtab]) (isX_go (b := false) (by simp [xtab]) ?_)))
      refine ⟨sz_le (by decide), fun p1 hp1 => ?_⟩
      ((try dsimp only); rw [u_seq]; (try simp only [u_asg, u_gN, u_ret, u_retN, u_skip, u_expr, u_ifs, u_c, u_op, u_neg, u_test, u_and, u_or, u_not, u_if, u_nil, u_cons, u_tup, u_lst, u_callP, u_call, u_b, u_chain, u_andV, u_addI, u_subI, u_mulI, u_divI, u_modI, u_powI, u_cmpI, u_eqI, u_eqS, u_eqB, u_abs, u_intI, u_intB, u_newT, u_newF, u_isN, u_notN, wVar, List.set_cons_zero, List.set_cons_succ, List.getElem?_cons_zero, List.getElem?_cons_succ, List.length_cons, List.length_nil, u_lc, u_for, u_r1, u_r2, u_r3, u_num, u_notV, u_yes, u_w0, u_w1, u_dput, u_get2, u_dget, u_prop, u_fld, u_setF, u_make, u_makeS, u_met, u_calO, u_orT, u_tupIt, u_dc, u_maxDd, u_dnew, u_tupi, ix_p0, ix_p1, wSl, woNone, woSome]))
      refine isX_go (b := false) (by simp [xtab]) (isX_go (b := false) (by simp [xtab]) (isX_go (b := false) (by simp [xtab]) ?_))
      refine ⟨sz_le (by decide), ?_⟩
      refine ⟨_, _, lst_ref up_same, rfl, sz_le (by decide), fun p2 hp2 => ?_⟩
      ((try dsimp only); rw [u_seq]; (try simp only [u_asg, u_gN, u_ret, u_retN, u_skip, u_expr, u_ifs, u_c, u_op, u_neg, u_test, u_and, u_or, u_not, u_if, u_nil, u_cons, u_tup, u_lst, u_callP, u_call, u_b, u_chain, u_andV, u_addI, u_subI, u_mulI, u_divI, u_modI, u_powI, u_cmpI, u_eqI, u_eqS, u_eqB, u_abs, u_intI, u_intB, u_newT, u_newF, u_isN, u_notN, wVar, List.set_cons_zero, List.set_cons_succ, List.getElem?_cons_zero, List.getElem?_cons_succ, List.length_cons, List.length_nil, u_lc, u_for, u_r1, u_r2, u_r3, u_num, u_notV, u_yes, u_w0, u_w1, u_dput, u_get2, u_dget, u_prop, u_fld, u_setF, u_make, u_makeS, u_met, u_calO, u_orT, u_tupIt, u_dc, u_maxDd, u_dnew, u_tupi, ix_p0, ix_p1, wSl, woNone, woSome]))
      simp only [wMethT, u_asg, u_gN, u_ret, u_retN, u_skip, u_expr, u_ifs, u_c, u_op, u_neg, u_test, u_and, u_or, u_not, u_if, u_nil, u_cons, u_tup, u_lst, u_callP, u_call, u_b, u_chain, u_andV, u_addI, u_subI, u_mulI, u_divI, u_modI, u_powI, u_cmpI, u_eqI, u_eqS, u_eqB, u_abs, u_intI, u_intB, u_newT, u_newF, u_isN, u_notN, wVar, List.set_cons_zero, List.set_cons_succ, List.getElem?_cons_zero, List.getElem?_cons_succ, List.length_cons, List.length_nil, u_lc, u_for, u_r1, u_r2, u_r3, u_num, u_notV, u_yes, u_w0, u_w1, u_dput, u_get2, u_dget, u_prop, u_fld, u_setF, u_make, u_makeS, u_met, u_calO, u_orT, u_tupIt, u_dc, u_maxDd, u_dnew, u_tupi, ix_p0, ix_p1, wSl, woNone, woSome]
      refine ⟨⟨_, lst_ref up_same⟩, isX_go (b := false) (by simp [xtab]) ?_⟩
      refine ⟨p2, _, _, rfl, rfl, up_same, lt_sz (by decide), ?_⟩
      rw [up_up]
      ((try dsimp only); rw [u_seq]; (try simp only [u_asg, u_gN, u_ret, u_retN, u_skip, u_expr, u_ifs, u_c, u_op, u_neg, u_test, u_and, u_or, u_not, u_if, u_nil, u_cons, u_tup, u_lst, u_callP, u_call, u_b, u_chain, u_andV, u_addI, u_subI, u_mulI, u_divI, u_modI, u_powI, u_cmpI, u_eqI, u_eqS, u_eqB, u_abs, u_intI, u_intB, u_newT, u_newF, u_isN, u_notN, wVar, List.set_cons_zero, List.set_cons_succ, List.getElem?_cons_zero, List.getElem?_cons_succ, List.length_cons, List.length_nil, u_lc, u_for, u_r1, u_r2, u_r3, u_num, u_notV, u_yes, u_w0, u_w1, u_dput, u_get2, u_dget, u_prop, u_fld, u_setF, u_make, u_makeS, u_met, u_calO, u_orT, u_tupIt, u_dc, u_maxDd, u_dnew, u_tupi, ix_p0, ix_p1, wSl, woNone, woSome]))
      refine isX_go (b := true) (by simp [xtab]) (isX_go (b := false) (by simp [xtab]) (isX_go (b := false) (by simp [xtab]) ?_))
      refine ⟨sz_le (by decide), ?_⟩
      ((try dsimp only); rw [u_seq]; (try simp only [u_asg, u_gN, u_ret, u_retN, u_skip, u_expr, u_ifs, u_c, u_op, u_neg, u_test, u_and, u_or, u_not, u_if, u_nil, u_cons, u_tup, u_lst, u_callP, u_call, u_b, u_chain, u_andV, u_addI, u_subI, u_mulI, u_divI, u_modI, u_powI, u_cmpI, u_eqI, u_eqS, u_eqB, u_abs, u_intI, u_intB, u_newT, u_newF, u_isN, u_notN, wVar, List.set_cons_zero, List.set_cons_succ, List.getElem?_cons_zero, List.getElem?_cons_succ, List.length_cons, List.length_nil, u_lc, u_for, u_r1, u_r2, u_r3, u_num, u_notV, u_yes, u_w0, u_w1, u_dput, u_get2, u_dget, u_prop, u_fld, u_setF, u_make, u_makeS, u_met, u_calO, u_orT, u_tupIt, u_dc, u_maxDd, u_dnew, u_tupi, ix_p0, ix_p1, wSl, woNone, woSome]))
      have e2 : (up (up h' p1 (AO.lst [D.bl true, D.bl false, D.bl false])) p2 (AO.lst ([D.bl true, D.bl false, D.bl false] ++ [D.bl false, D.bl false, D.bl false] ++ [D.bl false]))) p2 = some (AO.lst (([true, false, false, false, false, false, false] : List Bool).map D.bl)) := up_same
      have sb : Sub h' (up (up h' p1 (AO.lst [D.bl true, D.bl false, D.bl false])) p2 (AO.lst ([D.bl true, D.bl false, D.bl false] ++ [D.bl false, D.bl false, D.bl false] ++ [D.bl false]))) := (sub_up hp1).trans (sub_up hp2)
      generalize (up (up h' p1 (AO.lst [D.bl true, D.bl false, D.bl false])) p2 (AO.lst ([D.bl true, D.bl false, D.bl false] ++ [D.bl false, D.bl false, D.bl false] ++ [D.bl false]))) = g at e2 sb ⊢
      clear hp1 hp2
      simp only [wMethT, u_asg, u_gN, u_ret, u_retN, u_skip, u_expr, u_ifs, u_c, u_op, u_neg, u_test, u_and, u_or, u_not, u_if, u_nil, u_cons, u_tup, u_lst, u_callP, u_call, u_b, u_chain, u_andV, u_addI, u_subI, u_mulI, u_divI, u_modI, u_powI, u_cmpI, u_eqI, u_eqS, u_eqB, u_abs, u_intI, u_intB, u_newT, u_newF, u_isN, u_notN, wVar, List.set_cons_zero, List.set_cons_succ, List.getElem?_cons_zero, List.getElem?_cons_succ, List.length_cons, List.length_nil, u_lc, u_for, u_r1, u_r2, u_r3, u_num, u_notV, u_yes, u_w0, u_w1, u_dput, u_get2, u_dget, u_prop, u_fld, u_setF, u_make, u_makeS, u_met, u_calO, u_orT, u_tupIt, u_dc, u_maxDd, u_dnew, u_tupi, ix_p0, ix_p1, wSl, woNone, woSome]
      refine ⟨⟨_, lst_ref e2⟩, [true, false, false, false, false, false, false], true, lst_ref e2, rfl, ?_⟩
      dsimp only
      rw [u_eqI, show (!decide (((([true, false, false, false, false, false, false] : List Bool).countP fun b => b == true : Nat) : Int) = 1)) = false from by decide]
      dsimp only
      rw [if_neg (by decide)]
      refine ⟨by decide, _, _, _, false, rfl, by simp, any3 (by simp [xtab]) (by simp [xtab]) (by simp [xtab]), ?_⟩
      dsimp only
      rw [if_neg (by decide)]
      ((try dsimp only); rw [u_seq]; (try simp only [u_asg, u_gN, u_ret, u_retN, u_skip, u_expr, u_ifs, u_c, u_op, u_neg, u_test, u_and, u_or, u_not, u_if, u_nil, u_cons, u_tup, u_lst, u_callP, u_call, u_b, u_chain, u_andV, u_addI, u_subI, u_mulI, u_divI, u_modI, u_powI, u_cmpI, u_eqI, u_eqS, u_eqB, u_abs, u_intI, u_intB, u_newT, u_newF, u_isN, u_notN, wVar, List.set_cons_zero, List.set_cons_succ, List.getElem?_cons_zero, List.getElem?_cons_succ, List.length_cons, List.length_nil, u_lc, u_for, u_r1, u_r2, u_r3, u_num, u_notV, u_yes, u_w0, u_w1, u_dput, u_get2, u_dget, u_prop, u_fld, u_setF, u_make, u_makeS, u_met, u_calO, u_orT, u_tupIt, u_dc, u_maxDd, u_dnew, u_tupi, ix_p0, ix_p1, wSl, woNone, woSome]))
      simp only [wMethT, u_asg, u_gN, u_ret, u_retN, u_skip, u_expr, u_ifs, u_c, u_op, u_neg, u_test, u_and, u_or, u_not, u_if, u_nil, u_cons, u_tup, u_lst, u_callP, u_call, u_b, u_chain, u_andV, u_addI, u_subI, u_mulI, u_divI, u_modI, u_powI, u_cmpI, u_eqI, u_eqS, u_eqB, u_abs, u_intI, u_intB, u_newT, u_newF, u_isN, u_notN, wVar, List.set_cons_zero, List.set_cons_succ, List.getElem?_cons_zero, List.getElem?_cons_succ, List.length_cons, List.length_nil, u_lc, u_for, u_r1, u_r2, u_r3, u_num, u_notV, u_yes, u_w0, u_w1, u_dput, u_get2, u_dget, u_prop, u_fld, u_setF, u_make, u_makeS, u_met, u_calO, u_orT, u_tupIt, u_dc, u_maxDd, u_dnew, u_tupi, ix_p0, ix_p1, wSl, woNone, woSome]
      refine ⟨⟨_, lst_ref e2⟩, [true, false, false, false, false, false, false], true, 0, lst_ref e2, rfl, rfl, ?_⟩
      ((try dsimp only); rw [u_seq]; (try simp only [u_asg, u_gN, u_ret, u_retN, u_skip, u_expr, u_ifs, u_c, u_op, u_neg, u_test, u_and, u_or, u_not, u_if, u_nil, u_cons, u_tup, u_lst, u_callP, u_call, u_b, u_chain, u_andV, u_addI, u_subI, u_mulI, u_divI, u_modI, u_powI, u_cmpI, u_eqI, u_eqS, u_eqB, u_abs, u_intI, u_intB, u_newT, u_newF, u_isN, u_notN, wVar, List.set_cons_zero, List.set_cons_succ, List.getElem?_cons_zero, List.getElem?_cons_succ, List.length_cons, List.length_nil, u_lc, u_for, u_r1, u_r2, u_r3, u_num, u_notV, u_yes, u_w0, u_w1, u_dput, u_get2, u_dget, u_prop, u_fld, u_setF, u_make, u_makeS, u_met, u_calO, u_orT, u_tupIt, u_dc, u_maxDd, u_dnew, u_tupi, ix_p0, ix_p1, wSl, woNone, woSome]))
      refine ⟨by decide, ints3 ?_⟩
      try simp only [u_asg, u_gN, u_ret, u_retN, u_skip, u_expr, u_ifs, u_c, u_op, u_neg, u_test, u_and, u_or, u_not, u_if, u_nil, u_cons, u_tup, u_lst, u_callP, u_call, u_b, u_chain, u_andV, u_addI, u_subI, u_mulI, u_divI, u_modI, u_powI, u_cmpI, u_eqI, u_eqS, u_eqB, u_abs, u_intI, u_intB, u_newT, u_newF, u_isN, u_notN, wVar, List.set_cons_zero, List.set_cons_succ, List.getElem?_cons_zero, List.getElem?_cons_succ, List.length_cons, List.length_nil, u_lc, u_for, u_r1, u_r2, u_r3, u_num, u_notV, u_yes, u_w0, u_w1, u_dput, u_get2, u_dget, u_prop, u_fld, u_setF, u_make, u_makeS, u_met, u_calO, u_orT, u_tupIt, u_dc, u_maxDd, u_dnew, u_tupi, ix_p0, ix_p1, wSl, woNone, woSome]
      refine ⟨by decide, ints2 ?_⟩
      refine ⟨by decide, ?_⟩
      show dEq (fun b => !b) (.lst [.bl true, .bl false, .bl false]) (.lst [.bl true, .bl false, .bl false]) g _
      refine same_lst (fl_b3 true false false) (by decide) ?_
      dsimp only
      rw [if_neg (by decide)]
      ((try dsimp only); rw [u_seq]; (try simp only [u_asg, u_gN, u_ret, u_retN, u_skip, u_expr, u_ifs, u_c, u_op, u_neg, u_test, u_and, u_or, u_not, u_if, u_nil, u_cons, u_tup, u_lst, u_callP, u_call, u_b, u_chain, u_andV, u_addI, u_subI, u_mulI, u_divI, u_modI, u_powI, u_cmpI, u_eqI, u_eqS, u_eqB, u_abs, u_intI, u_intB, u_newT, u_newF, u_isN, u_notN, wVar, List.set_cons_zero, List.set_cons_succ, List.getElem?_cons_zero, List.getElem?_cons_succ, List.length_cons, List.length_nil, u_lc, u_for, u_r1, u_r2, u_r3, u_num, u_notV, u_yes, u_w0, u_w1, u_dput, u_get2, u_dget, u_prop, u_fld, u_setF, u_make, u_makeS, u_met, u_calO, u_orT, u_tupIt, u_dc, u_maxDd, u_dnew, u_tupi, ix_p0, ix_p1, wSl, woNone, woSome]))
      rw [if_pos (by decide)]
      try simp only [u_asg, u_gN, u_ret, u_retN, u_skip, u_expr, u_ifs, u_c, u_op, u_neg, u_test, u_and, u_or, u_not, u_if, u_nil, u_cons, u_tup, u_lst, u_callP, u_call, u_b, u_chain, u_andV, u_addI, u_subI, u_mulI, u_divI, u_modI, u_powI, u_cmpI, u_eqI, u_eqS, u_eqB, u_abs, u_intI, u_intB, u_newT, u_newF, u_isN, u_notN, wVar, List.set_cons_zero, List.set_cons_succ, List.getElem?_cons_zero, List.getElem?_cons_succ, List.length_cons, List.length_nil, u_lc, u_for, u_r1, u_r2, u_r3, u_num, u_notV, u_yes, u_w0, u_w1, u_dput, u_get2, u_dget, u_prop, u_fld, u_setF, u_make, u_makeS, u_met, u_calO, u_orT, u_tupIt, u_dc, u_maxDd, u_dnew, u_tupi, ix_p0, ix_p1, wSl, woNone, woSome]
      refine ⟨by decide, ?_⟩
      rw [u_ixLd (show atI _ _ = some (.str "program") from rfl)]
      exact ⟨_, _, _, rfl, by simp, rfl, by decide, fin_sub sb q⟩
    | plc v =>
      refine ⟨by simp [errs], ?_⟩
      dsimp only [List.replicate, List.set_cons_succ, List.set_cons_zero]
      rw [u_seq]
      simp only [u_asg, u_gN, u_ret, u_retN, u_skip, u_expr, u_ifs, u_c, u_op, u_neg, u_test, u_and, u_or, u_not, u_if, u_nil, u_cons, u_tup, u_lst, u_callP, u_call, u_b, u_chain, u_andV, u_addI, u_subI, u_mulI, u_divI, u_modI, u_powI, u_cmpI, u_eqI, u_eqS, u_eqB, u_abs, u_intI, u_intB, u_newT, u_newF, u_isN, u_notN, wVar, List.set_cons_zero, List.set_cons_succ, List.getElem?_cons_zero, List.getElem?_cons_succ, List.length_cons, List.length_nil, u_lc, u_for, u_r1, u_r2, u_r3, u_num, u_notV, u_yes, u_w0, u_w1, u_dput, u_get2, u_dget, u_prop, u_fld, u_setF, u_make, u_makeS, u_met, u_calO, u_orT, u_tupIt, u_dc, u_maxDd, u_dnew, u_tupi, ix_p0, ix_p1, wSl, woNone, woSome]
      rw [isN_xob]
      simp only [Bool.false_eq_true, if_false]
      ((try dsimp only); rw [u_seq]; (try simp only [u_asg, u_gN, u_ret, u_retN, u_skip, u_expr, u_ifs, u_c, u_op, u_neg, u_test, u_and, u_or, u_not, u_if, u_nil, u_cons, u_tup, u_lst, u_callP, u_call, u_b, u_chain, u_andV, u_addI, u_subI, u_mulI, u_divI, u_modI, u_powI, u_cmpI, u_eqI, u_eqS, u_eqB, u_abs, u_intI, u_intB, u_newT, u_newF, u_isN, u_notN, wVar, List.set_cons_zero, List.set_cons_succ, List.getElem?_cons_zero, List.getElem?_cons_succ, List.length_cons, List.length_nil, u_lc, u_for, u_r1, u_r2, u_r3, u_num, u_notV, u_yes, u_w0, u_w1, u_dput, u_get2, u_dget, u_prop, u_fld, u_setF, u_make, u_makeS, u_met, u_calO, u_orT, u_tupIt, u_dc, u_maxDd, u_dnew, u_tupi, ix_p0, ix_p1, wSl, woNone, woSome]))
      refine isX_go (b := false) (by simp [xtab]) ((isX_go (b := true) (by simp [xtab]) (isX_go (b := false) (by simp [xtab]) ?_)))
      refine ⟨sz_le (by decide), fun p1 hp1 => ?_⟩
      ((try dsimp only); rw [u_seq]; (try simp only [u_asg, u_gN, u_ret, u_retN, u_skip, u_expr, u_ifs, u_c, u_op, u_neg, u_test, u_and, u_or, u_not, u_if, u_nil, u_cons, u_tup, u_lst, u_callP, u_call, u_b, u_chain, u_andV, u_addI, u_subI, u_mulI, u_divI, u_modI, u_powI, u_cmpI, u_eqI, u_eqS, u_eqB, u_abs, u_intI, u_intB, u_newT, u_newF, u_isN, u_notN, wVar, List.set_cons_zero, List.set_cons_succ, List.getElem?_cons_zero, List.getElem?_cons_succ, List.length_cons, List.length_nil, u_lc, u_for, u_r1, u_r2, u_r3, u_num, u_notV, u_yes, u_w0, u_w1, u_dput, u_get2, u_dget, u_prop, u_fld, u_setF, u_make, u_makeS, u_met, u_calO, u_orT, u_tupIt, u_dc, u_maxDd, u_dnew, u_tupi, ix_p0, ix_p1, wSl, woNone, woSome]))
      refine isX_go (b := false) (by simp [xtab]) (isX_go (b := false) (by simp [xtab]) (isX_go (b := false) (by simp [xtab]) ?_))
      refine ⟨sz_le (by decide), ?_⟩
      refine ⟨_, _, lst_ref up_same, rfl, sz_le (by decide), fun p2 hp2 => ?_⟩
      ((try dsimp only); rw [u_seq]; (try simp only [u_asg, u_gN, u_ret, u_retN, u_skip, u_expr, u_ifs, u_c, u_op, u_neg, u_test, u_and, u_or, u_not, u_if, u_nil, u_cons, u_tup, u_lst, u_callP, u_call, u_b, u_chain, u_andV, u_addI, u_subI, u_mulI, u_divI, u_modI, u_powI, u_cmpI, u_eqI, u_eqS, u_eqB, u_abs, u_intI, u_intB, u_newT, u_newF, u_isN, u_notN, wVar, List.set_cons_zero, List.set_cons_succ, List.getElem?_cons_zero, List.getElem?_cons_succ, List.length_cons, List.length_nil, u_lc, u_for, u_r1, u_r2, u_r3, u_num, u_notV, u_yes, u_w0, u_w1, u_dput, u_get2, u_dget, u_prop, u_fld, u_setF, u_make, u_makeS, u_met, u_calO, u_orT, u_tupIt, u_dc, u_maxDd, u_dnew, u_tupi, ix_p0, ix_p1, wSl, woNone, woSome]))
      simp only [wMethT, u_asg, u_gN, u_ret, u_retN, u_skip, u_expr, u_ifs, u_c, u_op, u_neg, u_test, u_and, u_or, u_not, u_if, u_nil, u_cons, u_tup, u_lst, u_callP, u_call, u_b, u_chain, u_andV, u_addI, u_subI, u_mulI, u_divI, u_modI, u_powI, u_cmpI, u_eqI, u_eqS, u_eqB, u_abs, u_intI, u_intB, u_newT, u_newF, u_isN, u_notN, wVar, List.set_cons_zero, List.set_cons_succ, List.getElem?_cons_zero, List.getElem?_cons_succ, List.length_cons, List.length_nil, u_lc, u_for, u_r1, u_r2, u_r3, u_num, u_notV, u_yes, u_w0, u_w1, u_dput, u_get2, u_dget, u_prop, u_fld, u_setF, u_make, u_makeS, u_met, u_calO, u_orT, u_tupIt, u_dc, u_maxDd, u_dnew, u_tupi, ix_p0, ix_p1, wSl, woNone, woSome]
      refine ⟨⟨_, lst_ref up_same⟩, isX_go (b := false) (by simp [xtab]) ?_⟩
      refine ⟨p2, _, _, rfl, rfl, up_same, lt_sz (by decide), ?_⟩
      rw [up_up]
      ((try dsimp only); rw [u_seq]; (try simp only [u_asg, u_gN, u_ret, u_retN, u_skip, u_expr, u_ifs, u_c, u_op, u_neg, u_test, u_and, u_or, u_not, u_if, u_nil, u_cons, u_tup, u_lst, u_callP, u_call, u_b, u_chain, u_andV, u_addI, u_subI, u_mulI, u_divI, u_modI, u_powI, u_cmpI, u_eqI, u_eqS, u_eqB, u_abs, u_intI, u_intB, u_newT, u_newF, u_isN, u_notN, wVar, List.set_cons_zero, List.set_cons_succ, List.getElem?_cons_zero, List.getElem?_cons_succ, List.length_cons, List.length_nil, u_lc, u_for, u_r1, u_r2, u_r3, u_num, u_notV, u_yes, u_w0, u_w1, u_dput, u_get2, u_dget, u_prop, u_fld, u_setF, u_make, u_makeS, u_met, u_calO, u_orT, u_tupIt, u_dc, u_maxDd, u_dnew, u_tupi, ix_p0, ix_p1, wSl, woNone, woSome]))
      refine isX_go (b := false) (by simp [xtab]) (isX_go (b := true) (by simp [xtab]) (isX_go (b := false) (by simp [xtab]) ?_))
      refine ⟨sz_le (by decide), ?_⟩
      ((try dsimp only); rw [u_seq]; (try simp only [u_asg, u_gN, u_ret, u_retN, u_skip, u_expr, u_ifs, u_c, u_op, u_neg, u_test, u_and, u_or, u_not, u_if, u_nil, u_cons, u_tup, u_lst, u_callP, u_call, u_b, u_chain, u_andV, u_addI, u_subI, u_mulI, u_divI, u_modI, u_powI, u_cmpI, u_eqI, u_eqS, u_eqB, u_abs, u_intI, u_intB, u_newT, u_newF, u_isN, u_notN, wVar, List.set_cons_zero, List.set_cons_succ, List.getElem?_cons_zero, List.getElem?_cons_succ, List.length_cons, List.length_nil, u_lc, u_for, u_r1, u_r2, u_r3, u_num, u_notV, u_yes, u_w0, u_w1, u_dput, u_get2, u_dget, u_prop, u_fld, u_setF, u_make, u_makeS, u_met, u_calO, u_orT, u_tupIt, u_dc, u_maxDd, u_dnew, u_tupi, ix_p0, ix_p1, wSl, woNone, woSome]))
      have e2 : (up (up h' p1 (AO.lst [D.bl false, D.bl true, D.bl false])) p2 (AO.lst ([D.bl false, D.bl true, D.bl false] ++ [D.bl false, D.bl false, D.bl false] ++ [D.bl false]))) p2 = some (AO.lst (([false, true, false, false, false, false, false] : List Bool).map D.bl)) := up_same
      have sb : Sub h' (up (up h' p1 (AO.lst [D.bl false, D.bl true, D.bl false])) p2 (AO.lst ([D.bl false, D.bl true, D.bl false] ++ [D.bl false, D.bl false, D.bl false] ++ [D.bl false]))) := (sub_up hp1).trans (sub_up hp2)
      generalize (up (up h' p1 (AO.lst [D.bl false, D.bl true, D.bl false])) p2 (AO.lst ([D.bl false, D.bl true, D.bl false] ++ [D.bl false, D.bl false, D.bl false] ++ [D.bl false]))) = g at e2 sb ⊢
      clear hp1 hp2
      simp only [wMethT, u_asg, u_gN, u_ret, u_retN, u_skip, u_expr, u_ifs, u_c, u_op, u_neg, u_test, u_and, u_or, u_not, u_if, u_nil, u_cons, u_tup, u_lst, u_callP, u_call, u_b, u_chain, u_andV, u_addI, u_subI, u_mulI, u_divI, u_modI, u_powI, u_cmpI, u_eqI, u_eqS, u_eqB, u_abs, u_intI, u_intB, u_newT, u_newF, u_isN, u_notN, wVar, List.set_cons_zero, List.set_cons_succ, List.getElem?_cons_zero, List.getElem?_cons_succ, List.length_cons, List.length_nil, u_lc, u_for, u_r1, u_r2, u_r3, u_num, u_notV, u_yes, u_w0, u_w1, u_dput, u_get2, u_dget, u_prop, u_fld, u_setF, u_make, u_makeS, u_met, u_calO, u_orT, u_tupIt, u_dc, u_maxDd, u_dnew, u_tupi, ix_p0, ix_p1, wSl, woNone, woSome]
      refine ⟨⟨_, lst_ref e2⟩, [false, true, false, false, false, false, false], true, lst_ref e2, rfl, ?_⟩
      dsimp only
      rw [u_eqI, show (!decide (((([false, true, false, false, false, false, false] : List Bool).countP fun b => b == true : Nat) : Int) = 1)) = false from by decide]
      dsimp only
      rw [if_neg (by decide)]
      refine ⟨by decide, _, _, _, false, rfl, by simp, any3 (by simp [xtab]) (by simp [xtab]) (by simp [xtab]), ?_⟩
      dsimp only
      rw [if_neg (by decide)]
      ((try dsimp only); rw [u_seq]; (try simp only [u_asg, u_gN, u_ret, u_retN, u_skip, u_expr, u_ifs, u_c, u_op, u_neg, u_test, u_and, u_or, u_not, u_if, u_nil, u_cons, u_tup, u_lst, u_callP, u_call, u_b, u_chain, u_andV, u_addI, u_subI, u_mulI, u_divI, u_modI, u_powI, u_cmpI, u_eqI, u_eqS, u_eqB, u_abs, u_intI, u_intB, u_newT, u_newF, u_isN, u_notN, wVar, List.set_cons_zero, List.set_cons_succ, List.getElem?_cons_zero, List.getElem?_cons_succ, List.length_cons, List.length_nil, u_lc, u_for, u_r1, u_r2, u_r3, u_num, u_notV, u_yes, u_w0, u_w1, u_dput, u_get2, u_dget, u_prop, u_fld, u_setF, u_make, u_makeS, u_met, u_calO, u_orT, u_tupIt, u_dc, u_maxDd, u_dnew, u_tupi, ix_p0, ix_p1, wSl, woNone, woSome]))
      simp only [wMethT, u_asg, u_gN, u_ret, u_retN, u_skip, u_expr, u_ifs, u_c, u_op, u_neg, u_test, u_and, u_or, u_not, u_if, u_nil, u_cons, u_tup, u_lst, u_callP, u_call, u_b, u_chain, u_andV, u_addI, u_subI, u_mulI, u_divI, u_modI, u_powI, u_cmpI, u_eqI, u_eqS, u_eqB, u_abs, u_intI, u_intB, u_newT, u_newF, u_isN, u_notN, wVar, List.set_cons_zero, List.set_cons_succ, List.getElem?_cons_zero, List.getElem?_cons_succ, List.length_cons, List.length_nil, u_lc, u_for, u_r1, u_r2, u_r3, u_num, u_notV, u_yes, u_w0, u_w1, u_dput, u_get2, u_dget, u_prop, u_fld, u_setF, u_make, u_makeS, u_met, u_calO, u_orT, u_tupIt, u_dc, u_maxDd, u_dnew, u_tupi, ix_p0, ix_p1, wSl, woNone, woSome]
      refine ⟨⟨_, lst_ref e2⟩, [false, true, false, false, false, false, false], true, 1, lst_ref e2, rfl, rfl, ?_⟩
      ((try dsimp only); rw [u_seq]; (try simp only [u_asg, u_gN, u_ret, u_retN, u_skip, u_expr, u_ifs, u_c, u_op, u_neg, u_test, u_and, u_or, u_not, u_if, u_nil, u_cons, u_tup, u_lst, u_callP, u_call, u_b, u_chain, u_andV, u_addI, u_subI, u_mulI, u_divI, u_modI, u_powI, u_cmpI, u_eqI, u_eqS, u_eqB, u_abs, u_intI, u_intB, u_newT, u_newF, u_isN, u_notN, wVar, List.set_cons_zero, List.set_cons_succ, List.getElem?_cons_zero, List.getElem?_cons_succ, List.length_cons, List.length_nil, u_lc, u_for, u_r1, u_r2, u_r3, u_num, u_notV, u_yes, u_w0, u_w1, u_dput, u_get2, u_dget, u_prop, u_fld, u_setF, u_make, u_makeS, u_met, u_calO, u_orT, u_tupIt, u_dc, u_maxDd, u_dnew, u_tupi, ix_p0, ix_p1, wSl, woNone, woSome]))
      refine ⟨by decide, ints3 ?_⟩
      try simp only [u_asg, u_gN, u_ret, u_retN, u_skip, u_expr, u_ifs, u_c, u_op, u_neg, u_test, u_and, u_or, u_not, u_if, u_nil, u_cons, u_tup, u_lst, u_callP, u_call, u_b, u_chain, u_andV, u_addI, u_subI, u_mulI, u_divI, u_modI, u_powI, u_cmpI, u_eqI, u_eqS, u_eqB, u_abs, u_intI, u_intB, u_newT, u_newF, u_isN, u_notN, wVar, List.set_cons_zero, List.set_cons_succ, List.getElem?_cons_zero, List.getElem?_cons_succ, List.length_cons, List.length_nil, u_lc, u_for, u_r1, u_r2, u_r3, u_num, u_notV, u_yes, u_w0, u_w1, u_dput, u_get2, u_dget, u_prop, u_fld, u_setF, u_make, u_makeS, u_met, u_calO, u_orT, u_tupIt, u_dc, u_maxDd, u_dnew, u_tupi, ix_p0, ix_p1, wSl, woNone, woSome]
      refine ⟨by decide, ints2 ?_⟩
      refine ⟨by decide, ?_⟩
      show dEq (fun b => !b) (.lst [.bl false, .bl true, .bl false]) (.lst [.bl false, .bl true, .bl false]) g _
      refine same_lst (fl_b3 false true false) (by decide) ?_
      dsimp only
      rw [if_neg (by decide)]
      ((try dsimp only); rw [u_seq]; (try simp only [u_asg, u_gN, u_ret, u_retN, u_skip, u_expr, u_ifs, u_c, u_op, u_neg, u_test, u_and, u_or, u_not, u_if, u_nil, u_cons, u_tup, u_lst, u_callP, u_call, u_b, u_chain, u_andV, u_addI, u_subI, u_mulI, u_divI, u_modI, u_powI, u_cmpI, u_eqI, u_eqS, u_eqB, u_abs, u_intI, u_intB, u_newT, u_newF, u_isN, u_notN, wVar, List.set_cons_zero, List.set_cons_succ, List.getElem?_cons_zero, List.getElem?_cons_succ, List.length_cons, List.length_nil, u_lc, u_for, u_r1, u_r2, u_r3, u_num, u_notV, u_yes, u_w0, u_w1, u_dput, u_get2, u_dget, u_prop, u_fld, u_setF, u_make, u_makeS, u_met, u_calO, u_orT, u_tupIt, u_dc, u_maxDd, u_dnew, u_tupi, ix_p0, ix_p1, wSl, woNone, woSome]))
      rw [if_pos (by decide)]
      try simp only [u_asg, u_gN, u_ret, u_retN, u_skip, u_expr, u_ifs, u_c, u_op, u_neg, u_test, u_and, u_or, u_not, u_if, u_nil, u_cons, u_tup, u_lst, u_callP, u_call, u_b, u_chain, u_andV, u_addI, u_subI, u_mulI, u_divI, u_modI, u_powI, u_cmpI, u_eqI, u_eqS, u_eqB, u_abs, u_intI, u_intB, u_newT, u_newF, u_isN, u_notN, wVar, List.set_cons_zero, List.set_cons_succ, List.getElem?_cons_zero, List.getElem?_cons_succ, List.length_cons, List.length_nil, u_lc, u_for, u_r1, u_r2, u_r3, u_num, u_notV, u_yes, u_w0, u_w1, u_dput, u_get2, u_dget, u_prop, u_fld, u_setF, u_make, u_makeS, u_met, u_calO, u_orT, u_tupIt, u_dc, u_maxDd, u_dnew, u_tupi, ix_p0, ix_p1, wSl, woNone, woSome]
      refine ⟨by decide, ?_⟩
      rw [u_ixLd (show atI _ _ = some (.str "place") from rfl)]
      exact ⟨_, _, _, rfl, by simp, rfl, by decide, fin_sub sb q⟩
    | large v =>
      refine ⟨by simp [errs], ?_⟩
      dsimp only [List.replicate, List.set_cons_succ, List.set_cons_zero]
      rw [u_seq]
      simp only [u_asg, u_gN, u_ret, u_retN, u_skip, u_expr, u_ifs, u_c, u_op, u_neg, u_test, u_and, u_or, u_not, u_if, u_nil, u_cons, u_tup, u_lst, u_callP, u_call, u_b, u_chain, u_andV, u_addI, u_subI, u_mulI, u_divI, u_modI, u_powI, u_cmpI, u_eqI, u_eqS, u_eqB, u_abs, u_intI, u_intB, u_newT, u_newF, u_isN, u_notN, wVar, List.set_cons_zero, List.set_cons_succ, List.getElem?_cons_zero, List.getElem?_cons_succ, List.length_cons, List.length_nil, u_lc, u_for, u_r1, u_r2, u_r3, u_num, u_notV, u_yes, u_w0, u_w1, u_dput, u_get2, u_dget, u_prop, u_fld, u_setF, u_make, u_makeS, u_met, u_calO, u_orT, u_tupIt, u_dc, u_maxDd, u_dnew, u_tupi, ix_p0, ix_p1, wSl, woNone, woSome]
      rw [isN_xob]
      simp only [Bool.false_eq_true, if_false]
      ((try dsimp only); rw [u_seq]; (try simp only [u_asg, u_gN, u_ret, u_retN, u_skip, u_expr, u_ifs, u_c, u_op, u_neg, u_test, u_and, u_or, u_not, u_if, u_nil, u_cons, u_tup, u_lst, u_callP, u_call, u_b, u_chain, u_andV, u_addI, u_subI, u_mulI, u_divI, u_modI, u_powI, u_cmpI, u_eqI, u_eqS, u_eqB, u_abs, u_intI, u_intB, u_newT, u_newF, u_isN, u_notN, wVar, List.set_cons_zero, List.set_cons_succ, List.getElem?_cons_zero, List.getElem?_cons_succ, List.length_cons, List.length_nil, u_lc, u_for, u_r1, u_r2, u_r3, u_num, u_notV, u_yes, u_w0, u_w1, u_dput, u_get2, u_dget, u_prop, u_fld, u_setF, u_make, u_makeS, u_met, u_calO, u_orT, u_tupIt, u_dc, u_maxDd, u_dnew, u_tupi, ix_p0, ix_p1, wSl, woNone, woSome]))
      refine isX_go (b := false) (by simp [xtab]) ((isX_go (b := false) (by simp [xtab]) (isX_go (b := true) (by simp [xtab]) ?_)))
      refine ⟨sz_le (by decide), fun p1 hp1 => ?_⟩
      ((try dsimp only); rw [u_seq]; (try simp only [u_asg, u_gN, u_ret, u_retN, u_skip, u_expr, u_ifs, u_c, u_op, u_neg, u_test, u_and, u_or, u_not, u_if, u_nil, u_cons, u_tup, u_lst, u_callP, u_call, u_b, u_chain, u_andV, u_addI, u_subI, u_mulI, u_divI, u_modI, u_powI, u_cmpI, u_eqI, u_eqS, u_eqB, u_abs, u_intI, u_intB, u_newT, u_newF, u_isN, u_notN, wVar, List.set_cons_zero, List.set_cons_succ, List.getElem?_cons_zero, List.getElem?_cons_succ, List.length_cons, List.length_nil, u_lc, u_for, u_r1, u_r2, u_r3, u_num, u_notV, u_yes, u_w0, u_w1, u_dput, u_get2, u_dget, u_prop, u_fld, u_setF, u_make, u_makeS, u_met, u_calO, u_orT, u_tupIt, u_dc, u_maxDd, u_dnew, u_tupi, ix_p0, ix_p1, wSl, woNone, woSome]))
      refine isX_go (b := false) (by simp [xtab]) (isX_go (b := false) (by simp [xtab]) (isX_go (b := false) (by simp [xtab]) ?_))
      refine ⟨sz_le (by decide), ?_⟩
      refine ⟨_, _, lst_ref up_same, rfl, sz_le (by decide), fun p2 hp2 => ?_⟩
      ((try dsimp only); rw [u_seq]; (try simp only [u_asg, u_gN, u_ret, u_retN, u_skip, u_expr, u_ifs, u_c, u_op, u_neg, u_test, u_and, u_or, u_not, u_if, u_nil, u_cons, u_tup, u_lst, u_callP, u_call, u_b, u_chain, u_andV, u_addI, u_subI, u_mulI, u_divI, u_modI, u_powI, u_cmpI, u_eqI, u_eqS, u_eqB, u_abs, u_intI, u_intB, u_newT, u_newF, u_isN, u_notN, wVar, List.set_cons_zero, List.set_cons_succ, List.getElem?_cons_zero, List.getElem?_cons_succ, List.length_cons, List.length_nil, u_lc, u_for, u_r1, u_r2, u_r3, u_num, u_notV, u_yes, u_w0, u_w1, u_dput, u_get2, u_dget, u_prop, u_fld, u_setF, u_make, u_makeS, u_met, u_calO, u_orT, u_tupIt, u_dc, u_maxDd, u_dnew, u_tupi, ix_p0, ix_p1, wSl, woNone, woSome]))
      simp only [wMethT, u_asg, u_gN, u_ret, u_retN, u_skip, u_expr, u_ifs, u_c, u_op, u_neg, u_test, u_and, u_or, u_not, u_if, u_nil, u_cons, u_tup, u_lst, u_callP, u_call, u_b, u_chain, u_andV, u_addI, u_subI, u_mulI, u_divI, u_modI, u_powI, u_cmpI, u_eqI, u_eqS, u_eqB, u_abs, u_intI, u_intB, u_newT, u_newF, u_isN, u_notN, wVar, List.set_cons_zero, List.set_cons_succ, List.getElem?_cons_zero, List.getElem?_cons_succ, List.length_cons, List.length_nil, u_lc, u_for, u_r1, u_r2, u_r3, u_num, u_notV, u_yes, u_w0, u_w1, u_dput, u_get2, u_dget, u_prop, u_fld, u_setF, u_make, u_makeS, u_met, u_calO, u_orT, u_tupIt, u_dc, u_maxDd, u_dnew, u_tupi, ix_p0, ix_p1, wSl, woNone, woSome]
      refine ⟨⟨_, lst_ref up_same⟩, isX_go (b := false) (by simp [xtab]) ?_⟩
      refine ⟨p2, _, _, rfl, rfl, up_same, lt_sz (by decide), ?_⟩
      rw [up_up]
      ((try dsimp only); rw [u_seq]; (try simp only [u_asg, u_gN, u_ret, u_retN, u_skip, u_expr, u_ifs, u_c, u_op, u_neg, u_test, u_and, u_or, u_not, u_if, u_nil, u_cons, u_tup, u_lst, u_callP, u_call, u_b, u_chain, u_andV, u_addI, u_subI, u_mulI, u_divI, u_modI, u_powI, u_cmpI, u_eqI, u_eqS, u_eqB, u_abs, u_intI, u_intB, u_newT, u_newF, u_isN, u_notN, wVar, List.set_cons_zero, List.set_cons_succ, List.getElem?_cons_zero, List.getElem?_cons_succ, List.length_cons, List.length_nil, u_lc, u_for, u_r1, u_r2, u_r3, u_num, u_notV, u_yes, u_w0, u_w1, u_dput, u_get2, u_dget, u_prop, u_fld, u_setF, u_make, u_makeS, u_met, u_calO, u_orT, u_tupIt, u_dc, u_maxDd, u_dnew, u_tupi, ix_p0, ix_p1, wSl, woNone, woSome]))
      refine isX_go (b := false) (by simp [xtab]) (isX_go (b := false) (by simp [xtab]) (isX_go (b := true) (by simp [xtab]) ?_))
      refine ⟨sz_le (by decide), ?_⟩
      ((try dsimp only); rw [u_seq]; (try simp only [u_asg, u_gN, u_ret, u_retN, u_skip, u_expr, u_ifs, u_c, u_op, u_neg, u_test, u_and, u_or, u_not, u_if, u_nil, u_cons, u_tup, u_lst, u_callP, u_call, u_b, u_chain, u_andV, u_addI, u_subI, u_mulI, u_divI, u_modI, u_powI, u_cmpI, u_eqI, u_eqS, u_eqB, u_abs, u_intI, u_intB, u_newT, u_newF, u_isN, u_notN, wVar, List.set_cons_zero, List.set_cons_succ, List.getElem?_cons_zero, List.getElem?_cons_succ, List.length_cons, List.length_nil, u_lc, u_for, u_r1, u_r2, u_r3, u_num, u_notV, u_yes, u_w0, u_w1, u_dput, u_get2, u_dget, u_prop, u_fld, u_setF, u_make, u_makeS, u_met, u_calO, u_orT, u_tupIt, u_dc, u_maxDd, u_dnew, u_tupi, ix_p0, ix_p1, wSl, woNone, woSome]))
      have e2 : (up (up h' p1 (AO.lst [D.bl false, D.bl false, D.bl true])) p2 (AO.lst ([D.bl false, D.bl false, D.bl true] ++ [D.bl false, D.bl false, D.bl false] ++ [D.bl false]))) p2 = some (AO.lst (([false, false, true, false, false, false, false] : List Bool).map D.bl)) := up_same
      have sb : Sub h' (up (up h' p1 (AO.lst [D.bl false, D.bl false, D.bl true])) p2 (AO.lst ([D.bl false, D.bl false, D.bl true] ++ [D.bl false, D.bl false, D.bl false] ++ [D.bl false]))) := (sub_up hp1).trans (sub_up hp2)
      generalize (up (up h' p1 (AO.lst [D.bl false, D.bl false, D.bl true])) p2 (AO.lst ([D.bl false, D.bl false, D.bl true] ++ [D.bl false, D.bl false, D.bl false] ++ [D.bl false]))) = g at e2 sb ⊢
      clear hp1 hp2
      simp only [wMethT, u_asg, u_gN, u_ret, u_retN, u_skip, u_expr, u_ifs, u_c, u_op, u_neg, u_test, u_and, u_or, u_not, u_if, u_nil, u_cons, u_tup, u_lst, u_callP, u_call, u_b, u_chain, u_andV, u_addI, u_subI, u_mulI, u_divI, u_modI, u_powI, u_cmpI, u_eqI, u_eqS, u_eqB, u_abs, u_intI, u_intB, u_newT, u_newF, u_isN, u_notN, wVar, List.set_cons_zero, List.set_cons_succ, List.getElem?_cons_zero, List.getElem?_cons_succ, List.length_cons, List.length_nil, u_lc, u_for, u_r1, u_r2, u_r3, u_num, u_notV, u_yes, u_w0, u_w1, u_dput, u_get2, u_dget, u_prop, u_fld, u_setF, u_make, u_makeS, u_met, u_calO, u_orT, u_tupIt, u_dc, u_maxDd, u_dnew, u_tupi, ix_p0, ix_p1, wSl, woNone, woSome]
      refine ⟨⟨_, lst_ref e2⟩, [false, false, true, false, false, false, false], true, lst_ref e2, rfl, ?_⟩
      dsimp only
      rw [u_eqI, show (!decide (((([false, false, true, false, false, false, false] : List Bool).countP fun b => b == true : Nat) : Int) = 1)) = false from by decide]
      dsimp only
      rw [if_neg (by decide)]
      refine ⟨by decide, _, _, _, false, rfl, by simp, any3 (by simp [xtab]) (by simp [xtab]) (by simp [xtab]), ?_⟩
      dsimp only
      rw [if_neg (by decide)]
      ((try dsimp only); rw [u_seq]; (try simp only [u_asg, u_gN, u_ret, u_retN, u_skip, u_expr, u_ifs, u_c, u_op, u_neg, u_test, u_and, u_or, u_not, u_if, u_nil, u_cons, u_tup, u_lst, u_callP, u_call, u_b, u_chain, u_andV, u_addI, u_subI, u_mulI, u_divI, u_modI, u_powI, u_cmpI, u_eqI, u_eqS, u_eqB, u_abs, u_intI, u_intB, u_newT, u_newF, u_isN, u_notN, wVar, List.set_cons_zero, List.set_cons_succ, List.getElem?_cons_zero, List.getElem?_cons_succ, List.length_cons, List.length_nil, u_lc, u_for, u_r1, u_r2, u_r3, u_num, u_notV, u_yes, u_w0, u_w1, u_dput, u_get2, u_dget, u_prop, u_fld, u_setF, u_make, u_makeS, u_met, u_calO, u_orT, u_tupIt, u_dc, u_maxDd, u_dnew, u_tupi, ix_p0, ix_p1, wSl, woNone, woSome]))
      simp only [wMethT, u_asg, u_gN, u_ret, u_retN, u_skip, u_expr, u_ifs, u_c, u_op, u_neg, u_test, u_and, u_or, u_not, u_if, u_nil, u_cons, u_tup, u_lst, u_callP, u_call, u_b, u_chain, u_andV, u_addI, u_subI, u_mulI, u_divI, u_modI, u_powI, u_cmpI, u_eqI, u_eqS, u_eqB, u_abs, u_intI, u_intB, u_newT, u_newF, u_isN, u_notN, wVar, List.set_cons_zero, List.set_cons_succ, List.getElem?_cons_zero, List.getElem?_cons_succ, List.length_cons, List.length_nil, u_lc, u_for, u_r1, u_r2, u_r3, u_num, u_notV, u_yes, u_w0, u_w1, u_dput, u_get2, u_dget, u_prop, u_fld, u_setF, u_make, u_makeS, u_met, u_calO, u_orT, u_tupIt, u_dc, u_maxDd, u_dnew, u_tupi, ix_p0, ix_p1, wSl, woNone, woSome]
      refine ⟨⟨_, lst_ref e2⟩, [false, false, true, false, false, false, false], true, 2, lst_ref e2, rfl, rfl, ?_⟩
      ((try dsimp only); rw [u_seq]; (try simp only [u_asg, u_gN, u_ret, u_retN, u_skip, u_expr, u_ifs, u_c, u_op, u_neg, u_test, u_and, u_or, u_not, u_if, u_nil, u_cons, u_tup, u_lst, u_callP, u_call, u_b, u_chain, u_andV, u_addI, u_subI, u_mulI, u_divI, u_modI, u_powI, u_cmpI, u_eqI, u_eqS, u_eqB, u_abs, u_intI, u_intB, u_newT, u_newF, u_isN, u_notN, wVar, List.set_cons_zero, List.set_cons_succ, List.getElem?_cons_zero, List.getElem?_cons_succ, List.length_cons, List.length_nil, u_lc, u_for, u_r1, u_r2, u_r3, u_num, u_notV, u_yes, u_w0, u_w1, u_dput, u_get2, u_dget, u_prop, u_fld, u_setF, u_make, u_makeS, u_met, u_calO, u_orT, u_tupIt, u_dc, u_maxDd, u_dnew, u_tupi, ix_p0, ix_p1, wSl, woNone, woSome]))
      refine ⟨by decide, ints3 ?_⟩
      try simp only [u_asg, u_gN, u_ret, u_retN, u_skip, u_expr, u_ifs, u_c, u_op, u_neg, u_test, u_and, u_or, u_not, u_if, u_nil, u_cons, u_tup, u_lst, u_callP, u_call, u_b, u_chain, u_andV, u_addI, u_subI, u_mulI, u_divI, u_modI, u_powI, u_cmpI, u_eqI, u_eqS, u_eqB, u_abs, u_intI, u_intB, u_newT, u_newF, u_isN, u_notN, wVar, List.set_cons_zero, List.set_cons_succ, List.getElem?_cons_zero, List.getElem?_cons_succ, List.length_cons, List.length_nil, u_lc, u_for, u_r1, u_r2, u_r3, u_num, u_notV, u_yes, u_w0, u_w1, u_dput, u_get2, u_dget, u_prop, u_fld, u_setF, u_make, u_makeS, u_met, u_calO, u_orT, u_tupIt, u_dc, u_maxDd, u_dnew, u_tupi, ix_p0, ix_p1, wSl, woNone, woSome]
      refine ⟨by decide, ints2 ?_⟩
      refine ⟨by decide, ?_⟩
      show dEq (fun b => !b) (.lst [.bl false, .bl false, .bl true]) (.lst [.bl false, .bl false, .bl true]) g _
      refine same_lst (fl_b3 false false true) (by decide) ?_
      dsimp only
      rw [if_neg (by decide)]
      ((try dsimp only); rw [u_seq]; (try simp only [u_asg, u_gN, u_ret, u_retN, u_skip, u_expr, u_ifs, u_c, u_op, u_neg, u_test, u_and, u_or, u_not, u_if, u_nil, u_cons, u_tup, u_lst, u_callP, u_call, u_b, u_chain, u_andV, u_addI, u_subI, u_mulI, u_divI, u_modI, u_powI, u_cmpI, u_eqI, u_eqS, u_eqB, u_abs, u_intI, u_intB, u_newT, u_newF, u_isN, u_notN, wVar, List.set_cons_zero, List.set_cons_succ, List.getElem?_cons_zero, List.getElem?_cons_succ, List.length_cons, List.length_nil, u_lc, u_for, u_r1, u_r2, u_r3, u_num, u_notV, u_yes, u_w0, u_w1, u_dput, u_get2, u_dget, u_prop, u_fld, u_setF, u_make, u_makeS, u_met, u_calO, u_orT, u_tupIt, u_dc, u_maxDd, u_dnew, u_tupi, ix_p0, ix_p1, wSl, woNone, woSome]))
      rw [if_neg (by decide)]
      ((try dsimp only); rw [u_seq]; (try simp only [u_asg, u_gN, u_ret, u_retN, u_skip, u_expr, u_ifs, u_c, u_op, u_neg, u_test, u_and, u_or, u_not, u_if, u_nil, u_cons, u_tup, u_lst, u_callP, u_call, u_b, u_chain, u_andV, u_addI, u_subI, u_mulI, u_divI, u_modI, u_powI, u_cmpI, u_eqI, u_eqS, u_eqB, u_abs, u_intI, u_intB, u_newT, u_newF, u_isN, u_notN, wVar, List.set_cons_zero, List.set_cons_succ, List.getElem?_cons_zero, List.getElem?_cons_succ, List.length_cons, List.length_nil, u_lc, u_for, u_r1, u_r2, u_r3, u_num, u_notV, u_yes, u_w0, u_w1, u_dput, u_get2, u_dget, u_prop, u_fld, u_setF, u_make, u_makeS, u_met, u_calO, u_orT, u_tupIt, u_dc, u_maxDd, u_dnew, u_tupi, ix_p0, ix_p1, wSl, woNone, woSome]))
      rw [if_pos (by decide)]
      try simp only [u_asg, u_gN, u_ret, u_retN, u_skip, u_expr, u_ifs, u_c, u_op, u_neg, u_test, u_and, u_or, u_not, u_if, u_nil, u_cons, u_tup, u_lst, u_callP, u_call, u_b, u_chain, u_andV, u_addI, u_subI, u_mulI, u_divI, u_modI, u_powI, u_cmpI, u_eqI, u_eqS, u_eqB, u_abs, u_intI, u_intB, u_newT, u_newF, u_isN, u_notN, wVar, List.set_cons_zero, List.set_cons_succ, List.getElem?_cons_zero, List.getElem?_cons_succ, List.length_cons, List.length_nil, u_lc, u_for, u_r1, u_r2, u_r3, u_num, u_notV, u_yes, u_w0, u_w1, u_dput, u_get2, u_dget, u_prop, u_fld, u_setF, u_make, u_makeS, u_met, u_calO, u_orT, u_tupIt, u_dc, u_maxDd, u_dnew, u_tupi, ix_p0, ix_p1, wSl, woNone, woSome]
      rw [if_pos (by decide)]
      exact ⟨_, _, _, rfl, by simp, rfl, by decide, fin_sub sb q⟩
    | long v =>
      refine ⟨by simp [errs], ?_⟩
      dsimp only [List.replicate, List.set_cons_succ, List.set_cons_zero]
      rw [u_seq]
      simp only [u_asg, u_gN, u_ret, u_retN, u_skip, u_expr, u_ifs, u_c, u_op, u_neg, u_test, u_and, u_or, u_not, u_if, u_nil, u_cons, u_tup, u_lst, u_callP, u_call, u_b, u_chain, u_andV, u_addI, u_subI, u_mulI, u_divI, u_modI, u_powI, u_cmpI, u_eqI, u_eqS, u_eqB, u_abs, u_intI, u_intB, u_newT, u_newF, u_isN, u_notN, wVar, List.set_cons_zero, List.set_cons_succ, List.getElem?_cons_zero, List.getElem?_cons_succ, List.length_cons, List.length_nil, u_lc, u_for, u_r1, u_r2, u_r3, u_num, u_notV, u_yes, u_w0, u_w1, u_dput, u_get2, u_dget, u_prop, u_fld, u_setF, u_make, u_makeS, u_met, u_calO, u_orT, u_tupIt, u_dc, u_maxDd, u_dnew, u_tupi, ix_p0, ix_p1, wSl, woNone, woSome]
      rw [isN_xob]
      simp only [Bool.false_eq_true, if_false]
      ((try dsimp only); rw [u_seq]; (try simp only [u_asg, u_gN, u_ret, u_retN, u_skip, u_expr, u_ifs, u_c, u_op, u_neg, u_test, u_and, u_or, u_not, u_if, u_nil, u_cons, u_tup, u_lst, u_callP, u_call, u_b, u_chain, u_andV, u_addI, u_subI, u_mulI, u_divI, u_modI, u_powI, u_cmpI, u_eqI, u_eqS, u_eqB, u_abs, u_intI, u_intB, u_newT, u_newF, u_isN, u_notN, wVar, List.set_cons_zero, List.set_cons_succ, List.getElem?_cons_zero, List.getElem?_cons_succ, List.length_cons, List.length_nil, u_lc, u_for, u_r1, u_r2, u_r3, u_num, u_notV, u_yes, u_w0, u_w1, u_dput, u_get2, u_dget, u_prop, u_fld, u_setF, u_make, u_makeS, u_met, u_calO, u_orT, u_tupIt, u_dc, u_maxDd, u_dnew, u_tupi, ix_p0, ix_p1, wSl, woNone, woSome]))
      refine isX_go (b := false) (by simp [xtab]) ((isX_go (b := false) (by simp [xtab]) (isX_go (b := false) (by simp [xtab]) ?_)))
      refine ⟨sz_le (by decide), fun p1 hp1 => ?_⟩
      ((try dsimp only); rw [u_seq]; (try simp only [u_asg, u_gN, u_ret, u_retN, u_skip, u_expr, u_ifs, u_c, u_op, u_neg, u_test, u_and, u_or, u_not, u_if, u_nil, u_cons, u_tup, u_lst, u_callP, u_call, u_b, u_chain, u_andV, u_addI, u_subI, u_mulI, u_divI, u_modI, u_powI, u_cmpI, u_eqI, u_eqS, u_eqB, u_abs, u_intI, u_intB, u_newT, u_newF, u_isN, u_notN, wVar, List.set_cons_zero, List.set_cons_succ, List.getElem?_cons_zero, List.getElem?_cons_succ, List.length_cons, List.length_nil, u_lc, u_for, u_r1, u_r2, u_r3, u_num, u_notV, u_yes, u_w0, u_w1, u_dput, u_get2, u_dget, u_prop, u_fld, u_setF, u_make, u_makeS, u_met, u_calO, u_orT, u_tupIt, u_dc, u_maxDd, u_dnew, u_tupi, ix_p0, ix_p1, wSl, woNone, woSome]))
      refine isX_go (b := true) (by simp [xtab]) (isX_go (b := false) (by simp [xtab]) (isX_go (b := false) (by simp [xtab]) ?_))
      refine ⟨sz_le (by decide), ?_⟩
      refine ⟨_, _, lst_ref up_same, rfl, sz_le (by decide), fun p2 hp2 => ?_⟩
      ((try dsimp only); rw [u_seq]; (try simp only [u_asg, u_gN, u_ret, u_retN, u_skip, u_expr, u_ifs, u_c, u_op, u_neg, u_test, u_and, u_or, u_not, u_if, u_nil, u_cons, u_tup, u_lst, u_callP, u_call, u_b, u_chain, u_andV, u_addI, u_subI, u_mulI, u_divI, u_modI, u_powI, u_cmpI, u_eqI, u_eqS, u_eqB, u_abs, u_intI, u_intB, u_newT, u_newF, u_isN, u_notN, wVar, List.set_cons_zero, List.set_cons_succ, List.getElem?_cons_zero, List.getElem?_cons_succ, List.length_cons, List.length_nil, u_lc, u_for, u_r1, u_r2, u_r3, u_num, u_notV, u_yes, u_w0, u_w1, u_dput, u_get2, u_dget, u_prop, u_fld, u_setF, u_make, u_makeS, u_met, u_calO, u_orT, u_tupIt, u_dc, u_maxDd, u_dnew, u_tupi, ix_p0, ix_p1, wSl, woNone, woSome]))
      simp only [wMethT, u_asg, u_gN, u_ret, u_retN, u_skip, u_expr, u_ifs, u_c, u_op, u_neg, u_test, u_and, u_or, u_not, u_if, u_nil, u_cons, u_tup, u_lst, u_callP, u_call, u_b, u_chain, u_andV, u_addI, u_subI, u_mulI, u_divI, u_modI, u_powI, u_cmpI, u_eqI, u_eqS, u_eqB, u_abs, u_intI, u_intB, u_newT, u_newF, u_isN, u_notN, wVar, List.set_cons_zero, List.set_cons_succ, List.getElem?_cons_zero, List.getElem?_cons_succ, List.length_cons, List.length_nil, u_lc, u_for, u_r1, u_r2, u_r3, u_num, u_notV, u_yes, u_w0, u_w1, u_dput, u_get2, u_dget, u_prop, u_fld, u_setF, u_make, u_makeS, u_met, u_calO, u_orT, u_tupIt, u_dc, u_maxDd, u_dnew, u_tupi, ix_p0, ix_p1, wSl, woNone, woSome]
      refine ⟨⟨_, lst_ref up_same⟩, isX_go (b := false) (by simp [xtab]) ?_⟩
      refine ⟨p2, _, _, rfl, rfl, up_same, lt_sz (by decide), ?_⟩
      rw [up_up]
      ((try dsimp only); rw [u_seq]; (try simp only [u_asg, u_gN, u_ret, u_retN, u_skip, u_expr, u_ifs, u_c, u_op, u_neg, u_test, u_and, u_or, u_not, u_if, u_nil, u_cons, u_tup, u_lst, u_callP, u_call, u_b, u_chain, u_andV, u_addI, u_subI, u_mulI, u_divI, u_modI, u_powI, u_cmpI, u_eqI, u_eqS, u_eqB, u_abs, u_intI, u_intB, u_newT, u_newF, u_isN, u_notN, wVar, List.set_cons_zero, List.set_cons_succ, List.getElem?_cons_zero, List.getElem?_cons_succ, List.length_cons, List.length_nil, u_lc, u_for, u_r1, u_r2, u_r3, u_num, u_notV, u_yes, u_w0, u_w1, u_dput, u_get2, u_dget, u_prop, u_fld, u_setF, u_make, u_makeS, u_met, u_calO, u_orT, u_tupIt, u_dc, u_maxDd, u_dnew, u_tupi, ix_p0, ix_p1, wSl, woNone, woSome]))
      refine isX_go (b := false) (by simp [xtab]) (isX_go (b := false) (by simp [xtab]) (isX_go (b := true) (by simp [xtab]) ?_))
      refine ⟨sz_le (by decide), ?_⟩
      ((try dsimp only); rw [u_seq]; (try simp only [u_asg, u_gN, u_ret, u_retN, u_skip, u_expr, u_ifs, u_c, u_op, u_neg, u_test, u_and, u_or, u_not, u_if, u_nil, u_cons, u_tup, u_lst, u_callP, u_call, u_b, u_chain, u_andV, u_addI, u_subI, u_mulI, u_divI, u_modI, u_powI, u_cmpI, u_eqI, u_eqS, u_eqB, u_abs, u_intI, u_intB, u_newT, u_newF, u_isN, u_notN, wVar, List.set_cons_zero, List.set_cons_succ, List.getElem?_cons_zero, List.getElem?_cons_succ, List.length_cons, List.length_nil, u_lc, u_for, u_r1, u_r2, u_r3, u_num, u_notV, u_yes, u_w0, u_w1, u_dput, u_get2, u_dget, u_prop, u_fld, u_setF, u_make, u_makeS, u_met, u_calO, u_orT, u_tupIt, u_dc, u_maxDd, u_dnew, u_tupi, ix_p0, ix_p1, wSl, woNone, woSome]))
      have e2 : (up (up h' p1 (AO.lst [D.bl false, D.bl false, D.bl false])) p2 (AO.lst ([D.bl false, D.bl false, D.bl false] ++ [D.bl true, D.bl false, D.bl false] ++ [D.bl false]))) p2 = some (AO.lst (([false, false, false, true, false, false, false] : List Bool).map D.bl)) := up_same
      have sb : Sub h' (up (up h' p1 (AO.lst [D.bl false, D.bl false, D.bl false])) p2 (AO.lst ([D.bl false, D.bl false, D.bl false] ++ [D.bl true, D.bl false, D.bl false] ++ [D.bl false]))) := (sub_up hp1).trans (sub_up hp2)
      generalize (up (up h' p1 (AO.lst [D.bl false, D.bl false, D.bl false])) p2 (AO.lst ([D.bl false, D.bl false, D.bl false] ++ [D.bl true, D.bl false, D.bl false] ++ [D.bl false]))) = g at e2 sb ⊢
      clear hp1 hp2
      simp only [wMethT, u_asg, u_gN, u_ret, u_retN, u_skip, u_expr, u_ifs, u_c, u_op, u_neg, u_test, u_and, u_or, u_not, u_if, u_nil, u_cons, u_tup, u_lst, u_callP, u_call, u_b, u_chain, u_andV, u_addI, u_subI, u_mulI, u_divI, u_modI, u_powI, u_cmpI, u_eqI, u_eqS, u_eqB, u_abs, u_intI, u_intB, u_newT, u_newF, u_isN, u_notN, wVar, List.set_cons_zero, List.set_cons_succ, List.getElem?_cons_zero, List.getElem?_cons_succ, List.length_cons, List.length_nil, u_lc, u_for, u_r1, u_r2, u_r3, u_num, u_notV, u_yes, u_w0, u_w1, u_dput, u_get2, u_dget, u_prop, u_fld, u_setF, u_make, u_makeS, u_met, u_calO, u_orT, u_tupIt, u_dc, u_maxDd, u_dnew, u_tupi, ix_p0, ix_p1, wSl, woNone, woSome]
      refine ⟨⟨_, lst_ref e2⟩, [false, false, false, true, false, false, false], true, lst_ref e2, rfl, ?_⟩
      dsimp only
      rw [u_eqI, show (!decide (((([false, false, false, true, false, false, false] : List Bool).countP fun b => b == true : Nat) : Int) = 1)) = false from by decide]
      dsimp only
      rw [if_neg (by decide)]
      refine ⟨by decide, _, _, _, false, rfl, by simp, any3 (by simp [xtab]) (by simp [xtab]) (by simp [xtab]), ?_⟩
      dsimp only
      rw [if_neg (by decide)]
      ((try dsimp only); rw [u_seq]; (try simp only [u_asg, u_gN, u_ret, u_retN, u_skip, u_expr, u_ifs, u_c, u_op, u_neg, u_test, u_and, u_or, u_not, u_if, u_nil, u_cons, u_tup, u_lst, u_callP, u_call, u_b, u_chain, u_andV, u_addI, u_subI, u_mulI, u_divI, u_modI, u_powI, u_cmpI, u_eqI, u_eqS, u_eqB, u_abs, u_intI, u_intB, u_newT, u_newF, u_isN, u_notN, wVar, List.set_cons_zero, List.set_cons_succ, List.getElem?_cons_zero, List.getElem?_cons_succ, List.length_cons, List.length_nil, u_lc, u_for, u_r1, u_r2, u_r3, u_num, u_notV, u_yes, u_w0, u_w1, u_dput, u_get2, u_dget, u_prop, u_fld, u_setF, u_make, u_makeS, u_met, u_calO, u_orT, u_tupIt, u_dc, u_maxDd, u_dnew, u_tupi, ix_p0, ix_p1, wSl, woNone, woSome]))
      simp only [wMethT, u_asg, u_gN, u_ret, u_retN, u_skip, u_expr, u_ifs, u_c, u_op, u_neg, u_test, u_and, u_or, u_not, u_if, u_nil, u_cons, u_tup, u_lst, u_callP, u_call, u_b, u_chain, u_andV, u_addI, u_subI, u_mulI, u_divI, u_modI, u_powI, u_cmpI, u_eqI, u_eqS, u_eqB, u_abs, u_intI, u_intB, u_newT, u_newF, u_isN, u_notN, wVar, List.set_cons_zero, List.set_cons_succ, List.getElem?_cons_zero, List.getElem?_cons_succ, List.length_cons, List.length_nil, u_lc, u_for, u_r1, u_r2, u_r3, u_num, u_notV, u_yes, u_w0, u_w1, u_dput, u_get2, u_dget, u_prop, u_fld, u_setF, u_make, u_makeS, u_met, u_calO, u_orT, u_tupIt, u_dc, u_maxDd, u_dnew, u_tupi, ix_p0, ix_p1, wSl, woNone, woSome]
      refine ⟨⟨_, lst_ref e2⟩, [false, false, false, true, false, false, false], true, 3, lst_ref e2, rfl, rfl, ?_⟩
      ((try dsimp only); rw [u_seq]; (try simp only [u_asg, u_gN, u_ret, u_retN, u_skip, u_expr, u_ifs, u_c, u_op, u_neg, u_test, u_and, u_or, u_not, u_if, u_nil, u_cons, u_tup, u_lst, u_callP, u_call, u_b, u_chain, u_andV, u_addI, u_subI, u_mulI, u_divI, u_modI, u_powI, u_cmpI, u_eqI, u_eqS, u_eqB, u_abs, u_intI, u_intB, u_newT, u_newF, u_isN, u_notN, wVar, List.set_cons_zero, List.set_cons_succ, List.getElem?_cons_zero, List.getElem?_cons_succ, List.length_cons, List.length_nil, u_lc, u_for, u_r1, u_r2, u_r3, u_num, u_notV, u_yes, u_w0, u_w1, u_dput, u_get2, u_dget, u_prop, u_fld, u_setF, u_make, u_makeS, u_met, u_calO, u_orT, u_tupIt, u_dc, u_maxDd, u_dnew, u_tupi, ix_p0, ix_p1, wSl, woNone, woSome]))
      refine ⟨by decide, ints3 ?_⟩
      try simp only [u_asg, u_gN, u_ret, u_retN, u_skip, u_expr, u_ifs, u_c, u_op, u_neg, u_test, u_and, u_or, u_not, u_if, u_nil, u_cons, u_tup, u_lst, u_callP, u_call, u_b, u_chain, u_andV, u_addI, u_subI, u_mulI, u_divI, u_modI, u_powI, u_cmpI, u_eqI, u_eqS, u_eqB, u_abs, u_intI, u_intB, u_newT, u_newF, u_isN, u_notN, wVar, List.set_cons_zero, List.set_cons_succ, List.getElem?_cons_zero, List.getElem?_cons_succ, List.length_cons, List.length_nil, u_lc, u_for, u_r1, u_r2, u_r3, u_num, u_notV, u_yes, u_w0, u_w1, u_dput, u_get2, u_dget, u_prop, u_fld, u_setF, u_make, u_makeS, u_met, u_calO, u_orT, u_tupIt, u_dc, u_maxDd, u_dnew, u_tupi, ix_p0, ix_p1, wSl, woNone, woSome]
      refine ⟨by decide, ints2 ?_⟩
      refine ⟨by decide, ?_⟩
      show dEq (fun b => !b) (.lst [.bl false, .bl false, .bl true]) (.lst [.bl false, .bl false, .bl true]) g _
      refine same_lst (fl_b3 false false true) (by decide) ?_
      dsimp only
      rw [if_neg (by decide)]
      ((try dsimp only); rw [u_seq]; (try simp only [u_asg, u_gN, u_ret, u_retN, u_skip, u_expr, u_ifs, u_c, u_op, u_neg, u_test, u_and, u_or, u_not, u_if, u_nil, u_cons, u_tup, u_lst, u_callP, u_call, u_b, u_chain, u_andV, u_addI, u_subI, u_mulI, u_divI, u_modI, u_powI, u_cmpI, u_eqI, u_eqS, u_eqB, u_abs, u_intI, u_intB, u_newT, u_newF, u_isN, u_notN, wVar, List.set_cons_zero, List.set_cons_succ, List.getElem?_cons_zero, List.getElem?_cons_succ, List.length_cons, List.length_nil, u_lc, u_for, u_r1, u_r2, u_r3, u_num, u_notV, u_yes, u_w0, u_w1, u_dput, u_get2, u_dget, u_prop, u_fld, u_setF, u_make, u_makeS, u_met, u_calO, u_orT, u_tupIt, u_dc, u_maxDd, u_dnew, u_tupi, ix_p0, ix_p1, wSl, woNone, woSome]))
      rw [if_neg (by decide)]
      ((try dsimp only); rw [u_seq]; (try simp only [u_asg, u_gN, u_ret, u_retN, u_skip, u_expr, u_ifs, u_c, u_op, u_neg, u_test, u_and, u_or, u_not, u_if, u_nil, u_cons, u_tup, u_lst, u_callP, u_call, u_b, u_chain, u_andV, u_addI, u_subI, u_mulI, u_divI, u_modI, u_powI, u_cmpI, u_eqI, u_eqS, u_eqB, u_abs, u_intI, u_intB, u_newT, u_newF, u_isN, u_notN, wVar, List.set_cons_zero, List.set_cons_succ, List.getElem?_cons_zero, List.getElem?_cons_succ, List.length_cons, List.length_nil, u_lc, u_for, u_r1, u_r2, u_r3, u_num, u_notV, u_yes, u_w0, u_w1, u_dput, u_get2, u_dget, u_prop, u_fld, u_setF, u_make, u_makeS, u_met, u_calO, u_orT, u_tupIt, u_dc, u_maxDd, u_dnew, u_tupi, ix_p0, ix_p1, wSl, woNone, woSome]))
      rw [if_pos (by decide)]
      try simp only [u_asg, u_gN, u_ret, u_retN, u_skip, u_expr, u_ifs, u_c, u_op, u_neg, u_test, u_and, u_or, u_not, u_if, u_nil, u_cons, u_tup, u_lst, u_callP, u_call, u_b, u_chain, u_andV, u_addI, u_subI, u_mulI, u_divI, u_modI, u_powI, u_cmpI, u_eqI, u_eqS, u_eqB, u_abs, u_intI, u_intB, u_newT, u_newF, u_isN, u_notN, wVar, List.set_cons_zero, List.set_cons_succ, List.getElem?_cons_zero, List.getElem?_cons_succ, List.length_cons, List.length_nil, u_lc, u_for, u_r1, u_r2, u_r3, u_num, u_notV, u_yes, u_w0, u_w1, u_dput, u_get2, u_dget, u_prop, u_fld, u_setF, u_make, u_makeS, u_met, u_calO, u_orT, u_tupIt, u_dc, u_maxDd, u_dnew, u_tupi, ix_p0, ix_p1, wSl, woNone, woSome]
      rw [if_neg (by decide)]
      exact ⟨_, _, _, rfl, by simp, rfl, by decide, fin_sub sb q⟩
    | num v =>
      refine ⟨by simp [errs], ?_⟩
      dsimp only [List.replicate, List.set_cons_succ, List.set_cons_zero]
      rw [u_seq]
      simp only [u_asg, u_gN, u_ret, u_retN, u_skip, u_expr, u_ifs, u_c, u_op, u_neg, u_test, u_and, u_or, u_not, u_if, u_nil, u_cons, u_tup, u_lst, u_callP, u_call, u_b, u_chain, u_andV, u_addI, u_subI, u_mulI, u_divI, u_modI, u_powI, u_cmpI, u_eqI, u_eqS, u_eqB, u_abs, u_intI, u_intB, u_newT, u_newF, u_isN, u_notN, wVar, List.set_cons_zero, List.set_cons_succ, List.getElem?_cons_zero, List.getElem?_cons_succ, List.length_cons, List.length_nil, u_lc, u_for, u_r1, u_r2, u_r3, u_num, u_notV, u_yes, u_w0, u_w1, u_dput, u_get2, u_dget, u_prop, u_fld, u_setF, u_make, u_makeS, u_met, u_calO, u_orT, u_tupIt, u_dc, u_maxDd, u_dnew, u_tupi, ix_p0, ix_p1, wSl, woNone, woSome]
      rw [isN_xob]
      simp only [Bool.false_eq_true, if_false]
      ((try dsimp only); rw [u_seq]; (try simp only [u_asg, u_gN, u_ret, u_retN, u_skip, u_expr, u_ifs, u_c, u_op, u_neg, u_test, u_and, u_or, u_not, u_if, u_nil, u_cons, u_tup, u_lst, u_callP, u_call, u_b, u_chain, u_andV, u_addI, u_subI, u_mulI, u_divI, u_modI, u_powI, u_cmpI, u_eqI, u_eqS, u_eqB, u_abs, u_intI, u_intB, u_newT, u_newF, u_isN, u_notN, wVar, List.set_cons_zero, List.set_cons_succ, List.getElem?_cons_zero, List.getElem?_cons_succ, List.length_cons, List.length_nil, u_lc, u_for, u_r1, u_r2, u_r3, u_num, u_notV, u_yes, u_w0, u_w1, u_dput, u_get2, u_dget, u_prop, u_fld, u_setF, u_make, u_makeS, u_met, u_calO, u_orT, u_tupIt, u_dc, u_maxDd, u_dnew, u_tupi, ix_p0, ix_p1, wSl, woNone, woSome]))
      refine isX_go (b := false) (by simp [xtab]) ((isX_go (b := false) (by simp [xtab]) (isX_go (b := false) (by simp [xtab]) ?_)))
      refine ⟨sz_le (by decide), fun p1 hp1 => ?_⟩
      ((try dsimp only); rw [u_seq]; (try simp only [u_asg, u_gN, u_ret, u_retN, u_skip, u_expr, u_ifs, u_c, u_op, u_neg, u_test, u_and, u_or, u_not, u_if, u_nil, u_cons, u_tup, u_lst, u_callP, u_call, u_b, u_chain, u_andV, u_addI, u_subI, u_mulI, u_divI, u_modI, u_powI, u_cmpI, u_eqI, u_eqS, u_eqB, u_abs, u_intI, u_intB, u_newT, u_newF, u_isN, u_notN, wVar, List.set_cons_zero, List.set_cons_succ, List.getElem?_cons_zero, List.getElem?_cons_succ, List.length_cons, List.length_nil, u_lc, u_for, u_r1, u_r2, u_r3, u_num, u_notV, u_yes, u_w0, u_w1, u_dput, u_get2, u_dget, u_prop, u_fld, u_setF, u_make, u_makeS, u_met, u_calO, u_orT, u_tupIt, u_dc, u_maxDd, u_dnew, u_tupi, ix_p0, ix_p1, wSl, woNone, woSome]))
      refine isX_go (b := false) (by simp [xtab]) (isX_go (b := true) (by simp [xtab]) (isX_go (b := false) (by simp [xtab]) ?_))
      refine ⟨sz_le (by decide), ?_⟩
      refine ⟨_, _, lst_ref up_same, rfl, sz_le (by decide), fun p2 hp2 => ?_⟩
      ((try dsimp only); rw [u_seq]; (try simp only [u_asg, u_gN, u_ret, u_retN, u_skip, u_expr, u_ifs, u_c, u_op, u_neg, u_test, u_and, u_or, u_not, u_if, u_nil, u_cons, u_tup, u_lst, u_callP, u_call, u_b, u_chain, u_andV, u_addI, u_subI, u_mulI, u_divI, u_modI, u_powI, u_cmpI, u_eqI, u_eqS, u_eqB, u_abs, u_intI, u_intB, u_newT, u_newF, u_isN, u_notN, wVar, List.set_cons_zero, List.set_cons_succ, List.getElem?_cons_zero, List.getElem?_cons_succ, List.length_cons, List.length_nil, u_lc, u_for, u_r1, u_r2, u_r3, u_num, u_notV, u_yes, u_w0, u_w1, u_dput, u_get2, u_dget, u_prop, u_fld, u_setF, u_make, u_makeS, u_met, u_calO, u_orT, u_tupIt, u_dc, u_maxDd, u_dnew, u_tupi, ix_p0, ix_p1, wSl, woNone, woSome]))
      simp only [wMethT, u_asg, u_gN, u_ret, u_retN, u_skip, u_expr, u_ifs, u_c, u_op, u_neg, u_test, u_and, u_or, u_not, u_if, u_nil, u_cons, u_tup, u_lst, u_callP, u_call, u_b, u_chain, u_andV, u_addI, u_subI, u_mulI, u_divI, u_modI, u_powI, u_cmpI, u_eqI, u_eqS, u_eqB, u_abs, u_intI, u_intB, u_newT, u_newF, u_isN, u_notN, wVar, List.set_cons_zero, List.set_cons_succ, List.getElem?_cons_zero, List.getElem?_cons_succ, List.length_cons, List.length_nil, u_lc, u_for, u_r1, u_r2, u_r3, u_num, u_notV, u_yes, u_w0, u_w1, u_dput, u_get2, u_dget, u_prop, u_fld, u_setF, u_make, u_makeS, u_met, u_calO, u_orT, u_tupIt, u_dc, u_maxDd, u_dnew, u_tupi, ix_p0, ix_p1, wSl, woNone, woSome]
      refine ⟨⟨_, lst_ref up_same⟩, isX_go (b := false) (by simp [xtab]) ?_⟩
      refine ⟨p2, _, _, rfl, rfl, up_same, lt_sz (by decide), ?_⟩
      rw [up_up]
      ((try dsimp only); rw [u_seq]; (try simp only [u_asg, u_gN, u_ret, u_retN, u_skip, u_expr, u_ifs, u_c, u_op, u_neg, u_test, u_and, u_or, u_not, u_if, u_nil, u_cons, u_tup, u_lst, u_callP, u_call, u_b, u_chain, u_andV, u_addI, u_subI, u_mulI, u_divI, u_modI, u_powI, u_cmpI, u_eqI, u_eqS, u_eqB, u_abs, u_intI, u_intB, u_newT, u_newF, u_isN, u_notN, wVar, List.set_cons_zero, List.set_cons_succ, List.getElem?_cons_zero, List.getElem?_cons_succ, List.length_cons, List.length_nil, u_lc, u_for, u_r1, u_r2, u_r3, u_num, u_notV, u_yes, u_w0, u_w1, u_dput, u_get2, u_dget, u_prop, u_fld, u_setF, u_make, u_makeS, u_met, u_calO, u_orT, u_tupIt, u_dc, u_maxDd, u_dnew, u_tupi, ix_p0, ix_p1, wSl, woNone, woSome]))
      refine isX_go (b := true) (by simp [xtab]) (isX_go (b := false) (by simp [xtab]) (isX_go (b := false) (by simp [xtab]) ?_))
      refine ⟨sz_le (by decide), ?_⟩
      ((try dsimp only); rw [u_seq]; (try simp only [u_asg, u_gN, u_ret, u_retN, u_skip, u_expr, u_ifs, u_c, u_op, u_neg, u_test, u_and, u_or, u_not, u_if, u_nil, u_cons, u_tup, u_lst, u_callP, u_call, u_b, u_chain, u_andV, u_addI, u_subI, u_mulI, u_divI, u_modI, u_powI, u_cmpI, u_eqI, u_eqS, u_eqB, u_abs, u_intI, u_intB, u_newT, u_newF, u_isN, u_notN, wVar, List.set_cons_zero, List.set_cons_succ, List.getElem?_cons_zero, List.getElem?_cons_succ, List.length_cons, List.length_nil, u_lc, u_for, u_r1, u_r2, u_r3, u_num, u_notV, u_yes, u_w0, u_w1, u_dput, u_get2, u_dget, u_prop, u_fld, u_setF, u_make, u_makeS, u_met, u_calO, u_orT, u_tupIt, u_dc, u_maxDd, u_dnew, u_tupi, ix_p0, ix_p1, wSl, woNone, woSome]))
      have e2 : (up (up h' p1 (AO.lst [D.bl false, D.bl false, D.bl false])) p2 (AO.lst ([D.bl false, D.bl false, D.bl false] ++ [D.bl false, D.bl true, D.bl false] ++ [D.bl false]))) p2 = some (AO.lst (([false, false, false, false, true, false, false] : List Bool).map D.bl)) := up_same
      have sb : Sub h' (up (up h' p1 (AO.lst [D.bl false, D.bl false, D.bl false])) p2 (AO.lst ([D.bl false, D.bl false, D.bl false] ++ [D.bl false, D.bl true, D.bl false] ++ [D.bl false]))) := (sub_up hp1).trans (sub_up hp2)
      generalize (up (up h' p1 (AO.lst [D.bl false, D.bl false, D.bl false])) p2 (AO.lst ([D.bl false, D.bl false, D.bl false] ++ [D.bl false, D.bl true, D.bl false] ++ [D.bl false]))) = g at e2 sb ⊢
      clear hp1 hp2
      simp only [wMethT, u_asg, u_gN, u_ret, u_retN, u_skip, u_expr, u_ifs, u_c, u_op, u_neg, u_test, u_and, u_or, u_not, u_if, u_nil, u_cons, u_tup, u_lst, u_callP, u_call, u_b, u_chain, u_andV, u_addI, u_subI, u_mulI, u_divI, u_modI, u_powI, u_cmpI, u_eqI, u_eqS, u_eqB, u_abs, u_intI, u_intB, u_newT, u_newF, u_isN, u_notN, wVar, List.set_cons_zero, List.set_cons_succ, List.getElem?_cons_zero, List.getElem?_cons_succ, List.length_cons, List.length_nil, u_lc, u_for, u_r1, u_r2, u_r3, u_num, u_notV, u_yes, u_w0, u_w1, u_dput, u_get2, u_dget, u_prop, u_fld, u_setF, u_make, u_makeS, u_met, u_calO, u_orT, u_tupIt, u_dc, u_maxDd, u_dnew, u_tupi, ix_p0, ix_p1, wSl, woNone, woSome]
      refine ⟨⟨_, lst_ref e2⟩, [false, false, false, false, true, false, false], true, lst_ref e2, rfl, ?_⟩
      dsimp only
      rw [u_eqI, show (!decide (((([false, false, false, false, true, false, false] : List Bool).countP fun b => b == true : Nat) : Int) = 1)) = false from by decide]
      dsimp only
      rw [if_neg (by decide)]
      refine ⟨by decide, _, _, _, false, rfl, by simp, any3 (by simp [xtab]) (by simp [xtab]) (by simp [xtab]), ?_⟩
      dsimp only
      rw [if_neg (by decide)]
      ((try dsimp only); rw [u_seq]; (try simp only [u_asg, u_gN, u_ret, u_retN, u_skip, u_expr, u_ifs, u_c, u_op, u_neg, u_test, u_and, u_or, u_not, u_if, u_nil, u_cons, u_tup, u_lst, u_callP, u_call, u_b, u_chain, u_andV, u_addI, u_subI, u_mulI, u_divI, u_modI, u_powI, u_cmpI, u_eqI, u_eqS, u_eqB, u_abs, u_intI, u_intB, u_newT, u_newF, u_isN, u_notN, wVar, List.set_cons_zero, List.set_cons_succ, List.getElem?_cons_zero, List.getElem?_cons_succ, List.length_cons, List.length_nil, u_lc, u_for, u_r1, u_r2, u_r3, u_num, u_notV, u_yes, u_w0, u_w1, u_dput, u_get2, u_dget, u_prop, u_fld, u_setF, u_make, u_makeS, u_met, u_calO, u_orT, u_tupIt, u_dc, u_maxDd, u_dnew, u_tupi, ix_p0, ix_p1, wSl, woNone, woSome]))
      simp only [wMethT, u_asg, u_gN, u_ret, u_retN, u_skip, u_expr, u_ifs, u_c, u_op, u_neg, u_test, u_and, u_or, u_not, u_if, u_nil, u_cons, u_tup, u_lst, u_callP, u_call, u_b, u_chain, u_andV, u_addI, u_subI, u_mulI, u_divI, u_modI, u_powI, u_cmpI, u_eqI, u_eqS, u_eqB, u_abs, u_intI, u_intB, u_newT, u_newF, u_isN, u_notN, wVar, List.set_cons_zero, List.set_cons_succ, List.getElem?_cons_zero, List.getElem?_cons_succ, List.length_cons, List.length_nil, u_lc, u_for, u_r1, u_r2, u_r3, u_num, u_notV, u_yes, u_w0, u_w1, u_dput, u_get2, u_dget, u_prop, u_fld, u_setF, u_make, u_makeS, u_met, u_calO, u_orT, u_tupIt, u_dc, u_maxDd, u_dnew, u_tupi, ix_p0, ix_p1, wSl, woNone, woSome]
      refine ⟨⟨_, lst_ref e2⟩, [false, false, false, false, true, false, false], true, 4, lst_ref e2, rfl, rfl, ?_⟩
      ((try dsimp only); rw [u_seq]; (try simp only [u_asg, u_gN, u_ret, u_retN, u_skip, u_expr, u_ifs, u_c, u_op, u_neg, u_test, u_and, u_or, u_not, u_if, u_nil, u_cons, u_tup, u_lst, u_callP, u_call, u_b, u_chain, u_andV, u_addI, u_subI, u_mulI, u_divI, u_modI, u_powI, u_cmpI, u_eqI, u_eqS, u_eqB, u_abs, u_intI, u_intB, u_newT, u_newF, u_isN, u_notN, wVar, List.set_cons_zero, List.set_cons_succ, List.getElem?_cons_zero, List.getElem?_cons_succ, List.length_cons, List.length_nil, u_lc, u_for, u_r1, u_r2, u_r3, u_num, u_notV, u_yes, u_w0, u_w1, u_dput, u_get2, u_dget, u_prop, u_fld, u_setF, u_make, u_makeS, u_met, u_calO, u_orT, u_tupIt, u_dc, u_maxDd, u_dnew, u_tupi, ix_p0, ix_p1, wSl, woNone, woSome]))
      refine ⟨by decide, ints3 ?_⟩
      try simp only [u_asg, u_gN, u_ret, u_retN, u_skip, u_expr, u_ifs, u_c, u_op, u_neg, u_test, u_and, u_or, u_not, u_if, u_nil, u_cons, u_tup, u_lst, u_callP, u_call, u_b, u_chain, u_andV, u_addI, u_subI, u_mulI, u_divI, u_modI, u_powI, u_cmpI, u_eqI, u_eqS, u_eqB, u_abs, u_intI, u_intB, u_newT, u_newF, u_isN, u_notN, wVar, List.set_cons_zero, List.set_cons_succ, List.getElem?_cons_zero, List.getElem?_cons_succ, List.length_cons, List.length_nil, u_lc, u_for, u_r1, u_r2, u_r3, u_num, u_notV, u_yes, u_w0, u_w1, u_dput, u_get2, u_dget, u_prop, u_fld, u_setF, u_make, u_makeS, u_met, u_calO, u_orT, u_tupIt, u_dc, u_maxDd, u_dnew, u_tupi, ix_p0, ix_p1, wSl, woNone, woSome]
      refine ⟨by decide, ints2 ?_⟩
      refine ⟨by decide, ?_⟩
      show dEq (fun b => !b) (.lst [.bl true, .bl false, .bl false]) (.lst [.bl true, .bl false, .bl false]) g _
      refine same_lst (fl_b3 true false false) (by decide) ?_
      dsimp only
      rw [if_neg (by decide)]
      ((try dsimp only); rw [u_seq]; (try simp only [u_asg, u_gN, u_ret, u_retN, u_skip, u_expr, u_ifs, u_c, u_op, u_neg, u_test, u_and, u_or, u_not, u_if, u_nil, u_cons, u_tup, u_lst, u_callP, u_call, u_b, u_chain, u_andV, u_addI, u_subI, u_mulI, u_divI, u_modI, u_powI, u_cmpI, u_eqI, u_eqS, u_eqB, u_abs, u_intI, u_intB, u_newT, u_newF, u_isN, u_notN, wVar, List.set_cons_zero, List.set_cons_succ, List.getElem?_cons_zero, List.getElem?_cons_succ, List.length_cons, List.length_nil, u_lc, u_for, u_r1, u_r2, u_r3, u_num, u_notV, u_yes, u_w0, u_w1, u_dput, u_get2, u_dget, u_prop, u_fld, u_setF, u_make, u_makeS, u_met, u_calO, u_orT, u_tupIt, u_dc, u_maxDd, u_dnew, u_tupi, ix_p0, ix_p1, wSl, woNone, woSome]))
      rw [if_neg (by decide)]
      ((try dsimp only); rw [u_seq]; (try simp only [u_asg, u_gN, u_ret, u_retN, u_skip, u_expr, u_ifs, u_c, u_op, u_neg, u_test, u_and, u_or, u_not, u_if, u_nil, u_cons, u_tup, u_lst, u_callP, u_call, u_b, u_chain, u_andV, u_addI, u_subI, u_mulI, u_divI, u_modI, u_powI, u_cmpI, u_eqI, u_eqS, u_eqB, u_abs, u_intI, u_intB, u_newT, u_newF, u_isN, u_notN, wVar, List.set_cons_zero, List.set_cons_succ, List.getElem?_cons_zero, List.getElem?_cons_succ, List.length_cons, List.length_nil, u_lc, u_for, u_r1, u_r2, u_r3, u_num, u_notV, u_yes, u_w0, u_w1, u_dput, u_get2, u_dget, u_prop, u_fld, u_setF, u_make, u_makeS, u_met, u_calO, u_orT, u_tupIt, u_dc, u_maxDd, u_dnew, u_tupi, ix_p0, ix_p1, wSl, woNone, woSome]))
      rw [if_neg (by decide)]
      try simp only [u_asg, u_gN, u_ret, u_retN, u_skip, u_expr, u_ifs, u_c, u_op, u_neg, u_test, u_and, u_or, u_not, u_if, u_nil, u_cons, u_tup, u_lst, u_callP, u_call, u_b, u_chain, u_andV, u_addI, u_subI, u_mulI, u_divI, u_modI, u_powI, u_cmpI, u_eqI, u_eqS, u_eqB, u_abs, u_intI, u_intB, u_newT, u_newF, u_isN, u_notN, wVar, List.set_cons_zero, List.set_cons_succ, List.getElem?_cons_zero, List.getElem?_cons_succ, List.length_cons, List.length_nil, u_lc, u_for, u_r1, u_r2, u_r3, u_num, u_notV, u_yes, u_w0, u_w1, u_dput, u_get2, u_dget, u_prop, u_fld, u_setF, u_make, u_makeS, u_met, u_calO, u_orT, u_tupIt, u_dc, u_maxDd, u_dnew, u_tupi, ix_p0, ix_p1, wSl, woNone, woSome]
      rw [if_neg (by decide)]
      try simp only [u_asg, u_gN, u_ret, u_retN, u_skip, u_expr, u_ifs, u_c, u_op, u_neg, u_test, u_and, u_or, u_not, u_if, u_nil, u_cons, u_tup, u_lst, u_callP, u_call, u_b, u_chain, u_andV, u_addI, u_subI, u_mulI, u_divI, u_modI, u_powI, u_cmpI, u_eqI, u_eqS, u_eqB, u_abs, u_intI, u_intB, u_newT, u_newF, u_isN, u_notN, wVar, List.set_cons_zero, List.set_cons_succ, List.getElem?_cons_zero, List.getElem?_cons_succ, List.length_cons, List.length_nil, u_lc, u_for, u_r1, u_r2, u_r3, u_num, u_notV, u_yes, u_w0, u_w1, u_dput, u_get2, u_dget, u_prop, u_fld, u_setF, u_make, u_makeS, u_met, u_calO, u_orT, u_tupIt, u_dc, u_maxDd, u_dnew, u_tupi, ix_p0, ix_p1, wSl, woNone, woSome]
      refine ⟨by decide, ?_⟩
      rw [u_ixLd (show atI _ _ = some (.str "number") from rfl)]
      exact ⟨_, _, _, rfl, by simp, rfl, by decide, fin_sub sb q⟩
    | mode v =>
      refine ⟨by simp [errs], ?_⟩
      dsimp only [List.replicate, List.set_cons_succ, List.set_cons_zero]
      rw [u_seq]
      simp only [u_asg, u_gN, u_ret, u_retN, u_skip, u_expr, u_ifs, u_c, u_op, u_neg, u_test, u_and, u_or, u_not, u_if, u_nil, u_cons, u_tup, u_lst, u_callP, u_call, u_b, u_chain, u_andV, u_addI, u_subI, u_mulI, u_divI, u_modI, u_powI, u_cmpI, u_eqI, u_eqS, u_eqB, u_abs, u_intI, u_intB, u_newT, u_newF, u_isN, u_notN, wVar, List.set_cons_zero, List.set_cons_succ, List.getElem?_cons_zero, List.getElem?_cons_succ, List.length_cons, List.length_nil, u_lc, u_for, u_r1, u_r2, u_r3, u_num, u_notV, u_yes, u_w0, u_w1, u_dput, u_get2, u_dget, u_prop, u_fld, u_setF, u_make, u_makeS, u_met, u_calO, u_orT, u_tupIt, u_dc, u_maxDd, u_dnew, u_tupi, ix_p0, ix_p1, wSl, woNone, woSome]
      rw [isN_xob]
      simp only [Bool.false_eq_true, if_false]
      ((try dsimp only); rw [u_seq]; (try simp only [u_asg, u_gN, u_ret, u_retN, u_skip, u_expr, u_ifs, u_c, u_op, u_neg, u_test, u_and, u_or, u_not, u_if, u_nil, u_cons, u_tup, u_lst, u_callP, u_call, u_b, u_chain, u_andV, u_addI, u_subI, u_mulI, u_divI, u_modI, u_powI, u_cmpI, u_eqI, u_eqS, u_eqB, u_abs, u_intI, u_intB, u_newT, u_newF, u_isN, u_notN, wVar, List.set_cons_zero, List.set_cons_succ, List.getElem?_cons_zero, List.getElem?_cons_succ, List.length_cons, List.length_nil, u_lc, u_for, u_r1, u_r2, u_r3, u_num, u_notV, u_yes, u_w0, u_w1, u_dput, u_get2, u_dget, u_prop, u_fld, u_setF, u_make, u_makeS, u_met, u_calO, u_orT, u_tupIt, u_dc, u_maxDd, u_dnew, u_tupi, ix_p0, ix_p1, wSl, woNone, woSome]))
      refine isX_go (b := false) (by simp [xtab]) ((isX_go (b := false) (by simp [xtab]) (isX_go (b := false) (by simp [xtab]) ?_)))
      refine ⟨sz_le (by decide), fun p1 hp1 => ?_⟩
      ((try dsimp only); rw [u_seq]; (try simp only [u_asg, u_gN, u_ret, u_retN, u_skip, u_expr, u_ifs, u_c, u_op, u_neg, u_test, u_and, u_or, u_not, u_if, u_nil, u_cons, u_tup, u_lst, u_callP, u_call, u_b, u_chain, u_andV, u_addI, u_subI, u_mulI, u_divI, u_modI, u_powI, u_cmpI, u_eqI, u_eqS, u_eqB, u_abs, u_intI, u_intB, u_newT, u_newF, u_isN, u_notN, wVar, List.set_cons_zero, List.set_cons_succ, List.getElem?_cons_zero, List.getElem?_cons_succ, List.length_cons, List.length_nil, u_lc, u_for, u_r1, u_r2, u_r3, u_num, u_notV, u_yes, u_w0, u_w1, u_dput, u_get2, u_dget, u_prop, u_fld, u_setF, u_make, u_makeS, u_met, u_calO, u_orT, u_tupIt, u_dc, u_maxDd, u_dnew, u_tupi, ix_p0, ix_p1, wSl, woNone, woSome]))
      refine isX_go (b := false) (by simp [xtab]) (isX_go (b := false) (by simp [xtab]) (isX_go (b := true) (by simp [xtab]) ?_))
      refine ⟨sz_le (by decide), ?_⟩
      refine ⟨_, _, lst_ref up_same, rfl, sz_le (by decide), fun p2 hp2 => ?_⟩
      ((try dsimp only); rw [u_seq]; (try simp only [u_asg, u_gN, u_ret, u_retN, u_skip, u_expr, u_ifs, u_c, u_op, u_neg, u_test, u_and, u_or, u_not, u_if, u_nil, u_cons, u_tup, u_lst, u_callP, u_call, u_b, u_chain, u_andV, u_addI, u_subI, u_mulI, u_divI, u_modI, u_powI, u_cmpI, u_eqI, u_eqS, u_eqB, u_abs, u_intI, u_intB, u_newT, u_newF, u_isN, u_notN, wVar, List.set_cons_zero, List.set_cons_succ, List.getElem?_cons_zero, List.getElem?_cons_succ, List.length_cons, List.length_nil, u_lc, u_for, u_r1, u_r2, u_r3, u_num, u_notV, u_yes, u_w0, u_w1, u_dput, u_get2, u_dget, u_prop, u_fld, u_setF, u_make, u_makeS, u_met, u_calO, u_orT, u_tupIt, u_dc, u_maxDd, u_dnew, u_tupi, ix_p0, ix_p1, wSl, woNone, woSome]))
      simp only [wMethT, u_asg, u_gN, u_ret, u_retN, u_skip, u_expr, u_ifs, u_c, u_op, u_neg, u_test, u_and, u_or, u_not, u_if, u_nil, u_cons, u_tup, u_lst, u_callP, u_call, u_b, u_chain, u_andV, u_addI, u_subI, u_mulI, u_divI, u_modI, u_powI, u_cmpI, u_eqI, u_eqS, u_eqB, u_abs, u_intI, u_intB, u_newT, u_newF, u_isN, u_notN, wVar, List.set_cons_zero, List.set_cons_succ, List.getElem?_cons_zero, List.getElem?_cons_succ, List.length_cons, List.length_nil, u_lc, u_for, u_r1, u_r2, u_r3, u_num, u_notV, u_yes, u_w0, u_w1, u_dput, u_get2, u_dget, u_prop, u_fld, u_setF, u_make, u_makeS, u_met, u_calO, u_orT, u_tupIt, u_dc, u_maxDd, u_dnew, u_tupi, ix_p0, ix_p1, wSl, woNone, woSome]
      refine ⟨⟨_, lst_ref up_same⟩, isX_go (b := false) (by simp [xtab]) ?_⟩
      refine ⟨p2, _, _, rfl, rfl, up_same, lt_sz (by decide), ?_⟩
      rw [up_up]
      ((try dsimp only); rw [u_seq]; (try simp only [u_asg, u_gN, u_ret, u_retN, u_skip, u_expr, u_ifs, u_c, u_op, u_neg, u_test, u_and, u_or, u_not, u_if, u_nil, u_cons, u_tup, u_lst, u_callP, u_call, u_b, u_chain, u_andV, u_addI, u_subI, u_mulI, u_divI, u_modI, u_powI, u_cmpI, u_eqI, u_eqS, u_eqB, u_abs, u_intI, u_intB, u_newT, u_newF, u_isN, u_notN, wVar, List.set_cons_zero, List.set_cons_succ, List.getElem?_cons_zero, List.getElem?_cons_succ, List.length_cons, List.length_nil, u_lc, u_for, u_r1, u_r2, u_r3, u_num, u_notV, u_yes, u_w0, u_w1, u_dput, u_get2, u_dget, u_prop, u_fld, u_setF, u_make, u_makeS, u_met, u_calO, u_orT, u_tupIt, u_dc, u_maxDd, u_dnew, u_tupi, ix_p0, ix_p1, wSl, woNone, woSome]))
      refine isX_go (b := true) (by simp [xtab]) (isX_go (b := false) (by simp [xtab]) (isX_go (b := false) (by simp [xtab]) ?_))
      refine ⟨sz_le (by decide), ?_⟩
      ((try dsimp only); rw [u_seq]; (try simp only [u_asg, u_gN, u_ret, u_retN, u_skip, u_expr, u_ifs, u_c, u_op, u_neg, u_test, u_and, u_or, u_not, u_if, u_nil, u_cons, u_tup, u_lst, u_callP, u_call, u_b, u_chain, u_andV, u_addI, u_subI, u_mulI, u_divI, u_modI, u_powI, u_cmpI, u_eqI, u_eqS, u_eqB, u_abs, u_intI, u_intB, u_newT, u_newF, u_isN, u_notN, wVar, List.set_cons_zero, List.set_cons_succ, List.getElem?_cons_zero, List.getElem?_cons_succ, List.length_cons, List.length_nil, u_lc, u_for, u_r1, u_r2, u_r3, u_num, u_notV, u_yes, u_w0, u_w1, u_dput, u_get2, u_dget, u_prop, u_fld, u_setF, u_make, u_makeS, u_met, u_calO, u_orT, u_tupIt, u_dc, u_maxDd, u_dnew, u_tupi, ix_p0, ix_p1, wSl, woNone, woSome]))
      have e2 : (up (up h' p1 (AO.lst [D.bl false, D.bl false, D.bl false])) p2 (AO.lst ([D.bl false, D.bl false, D.bl false] ++ [D.bl false, D.bl false, D.bl true] ++ [D.bl false]))) p2 = some (AO.lst (([false, false, false, false, false, true, false] : List Bool).map D.bl)) := up_same
      have sb : Sub h' (up (up h' p1 (AO.lst [D.bl false, D.bl false, D.bl false])) p2 (AO.lst ([D.bl false, D.bl false, D.bl false] ++ [D.bl false, D.bl false, D.bl true] ++ [D.bl false]))) := (sub_up hp1).trans (sub_up hp2)
      generalize (up (up h' p1 (AO.lst [D.bl false, D.bl false, D.bl false])) p2 (AO.lst ([D.bl false, D.bl false, D.bl false] ++ [D.bl false, D.bl false, D.bl true] ++ [D.bl false]))) = g at e2 sb ⊢
      clear hp1 hp2
      simp only [wMethT, u_asg, u_gN, u_ret, u_retN, u_skip, u_expr, u_ifs, u_c, u_op, u_neg, u_test, u_and, u_or, u_not, u_if, u_nil, u_cons, u_tup, u_lst, u_callP, u_call, u_b, u_chain, u_andV, u_addI, u_subI, u_mulI, u_divI, u_modI, u_powI, u_cmpI, u_eqI, u_eqS, u_eqB, u_abs, u_intI, u_intB, u_newT, u_newF, u_isN, u_notN, wVar, List.set_cons_zero, List.set_cons_succ, List.getElem?_cons_zero, List.getElem?_cons_succ, List.length_cons, List.length_nil, u_lc, u_for, u_r1, u_r2, u_r3, u_num, u_notV, u_yes, u_w0, u_w1, u_dput, u_get2, u_dget, u_prop, u_fld, u_setF, u_make, u_makeS, u_met, u_calO, u_orT, u_tupIt, u_dc, u_maxDd, u_dnew, u_tupi, ix_p0, ix_p1, wSl, woNone, woSome]
      refine ⟨⟨_, lst_ref e2⟩, [false, false, false, false, false, true, false], true, lst_ref e2, rfl, ?_⟩
      dsimp only
      rw [u_eqI, show (!decide (((([false, false, false, false, false, true, false] : List Bool).countP fun b => b == true : Nat) : Int) = 1)) = false from by decide]
      dsimp only
      rw [if_neg (by decide)]
      refine ⟨by decide, _, _, _, false, rfl, by simp, any3 (by simp [xtab]) (by simp [xtab]) (by simp [xtab]), ?_⟩
      dsimp only
      rw [if_neg (by decide)]
      ((try dsimp only); rw [u_seq]; (try simp only [u_asg, u_gN, u_ret, u_retN, u_skip, u_expr, u_ifs, u_c, u_op, u_neg, u_test, u_and, u_or, u_not, u_if, u_nil, u_cons, u_tup, u_lst, u_callP, u_call, u_b, u_chain, u_andV, u_addI, u_subI, u_mulI, u_divI, u_modI, u_powI, u_cmpI, u_eqI, u_eqS, u_eqB, u_abs, u_intI, u_intB, u_newT, u_newF, u_isN, u_notN, wVar, List.set_cons_zero, List.set_cons_succ, List.getElem?_cons_zero, List.getElem?_cons_succ, List.length_cons, List.length_nil, u_lc, u_for, u_r1, u_r2, u_r3, u_num, u_notV, u_yes, u_w0, u_w1, u_dput, u_get2, u_dget, u_prop, u_fld, u_setF, u_make, u_makeS, u_met, u_calO, u_orT, u_tupIt, u_dc, u_maxDd, u_dnew, u_tupi, ix_p0, ix_p1, wSl, woNone, woSome]))
      simp only [wMethT, u_asg, u_gN, u_ret, u_retN, u_skip, u_expr, u_ifs, u_c, u_op, u_neg, u_test, u_and, u_or, u_not, u_if, u_nil, u_cons, u_tup, u_lst, u_callP, u_call, u_b, u_chain, u_andV, u_addI, u_subI, u_mulI, u_divI, u_modI, u_powI, u_cmpI, u_eqI, u_eqS, u_eqB, u_abs, u_intI, u_intB, u_newT, u_newF, u_isN, u_notN, wVar, List.set_cons_zero, List.set_cons_succ, List.getElem?_cons_zero, List.getElem?_cons_succ, List.length_cons, List.length_nil, u_lc, u_for, u_r1, u_r2, u_r3, u_num, u_notV, u_yes, u_w0, u_w1, u_dput, u_get2, u_dget, u_prop, u_fld, u_setF, u_make, u_makeS, u_met, u_calO, u_orT, u_tupIt, u_dc, u_maxDd, u_dnew, u_tupi, ix_p0, ix_p1, wSl, woNone, woSome]
      refine ⟨⟨_, lst_ref e2⟩, [false, false, false, false, false, true, false], true, 5, lst_ref e2, rfl, rfl, ?_⟩
      ((try dsimp only); rw [u_seq]; (try simp only [u_asg, u_gN, u_ret, u_retN, u_skip, u_expr, u_ifs, u_c, u_op, u_neg, u_test, u_and, u_or, u_not, u_if, u_nil, u_cons, u_tup, u_lst, u_callP, u_call, u_b, u_chain, u_andV, u_addI, u_subI, u_mulI, u_divI, u_modI, u_powI, u_cmpI, u_eqI, u_eqS, u_eqB, u_abs, u_intI, u_intB, u_newT, u_newF, u_isN, u_notN, wVar, List.set_cons_zero, List.set_cons_succ, List.getElem?_cons_zero, List.getElem?_cons_succ, List.length_cons, List.length_nil, u_lc, u_for, u_r1, u_r2, u_r3, u_num, u_notV, u_yes, u_w0, u_w1, u_dput, u_get2, u_dget, u_prop, u_fld, u_setF, u_make, u_makeS, u_met, u_calO, u_orT, u_tupIt, u_dc, u_maxDd, u_dnew, u_tupi, ix_p0, ix_p1, wSl, woNone, woSome]))
      refine ⟨by decide, ints3 ?_⟩
      try simp only [u_asg, u_gN, u_ret, u_retN, u_skip, u_expr, u_ifs, u_c, u_op, u_neg, u_test, u_and, u_or, u_not, u_if, u_nil, u_cons, u_tup, u_lst, u_callP, u_call, u_b, u_chain, u_andV, u_addI, u_subI, u_mulI, u_divI, u_modI, u_powI, u_cmpI, u_eqI, u_eqS, u_eqB, u_abs, u_intI, u_intB, u_newT, u_newF, u_isN, u_notN, wVar, List.set_cons_zero, List.set_cons_succ, List.getElem?_cons_zero, List.getElem?_cons_succ, List.length_cons, List.length_nil, u_lc, u_for, u_r1, u_r2, u_r3, u_num, u_notV, u_yes, u_w0, u_w1, u_dput, u_get2, u_dget, u_prop, u_fld, u_setF, u_make, u_makeS, u_met, u_calO, u_orT, u_tupIt, u_dc, u_maxDd, u_dnew, u_tupi, ix_p0, ix_p1, wSl, woNone, woSome]
      refine ⟨by decide, ints2 ?_⟩
      refine ⟨by decide, ?_⟩
      show dEq (fun b => !b) (.lst [.bl true, .bl false, .bl false]) (.lst [.bl true, .bl false, .bl false]) g _
      refine same_lst (fl_b3 true false false) (by decide) ?_
      dsimp only
      rw [if_neg (by decide)]
      ((try dsimp only); rw [u_seq]; (try simp only [u_asg, u_gN, u_ret, u_retN, u_skip, u_expr, u_ifs, u_c, u_op, u_neg, u_test, u_and, u_or, u_not, u_if, u_nil, u_cons, u_tup, u_lst, u_callP, u_call, u_b, u_chain, u_andV, u_addI, u_subI, u_mulI, u_divI, u_modI, u_powI, u_cmpI, u_eqI, u_eqS, u_eqB, u_abs, u_intI, u_intB, u_newT, u_newF, u_isN, u_notN, wVar, List.set_cons_zero, List.set_cons_succ, List.getElem?_cons_zero, List.getElem?_cons_succ, List.length_cons, List.length_nil, u_lc, u_for, u_r1, u_r2, u_r3, u_num, u_notV, u_yes, u_w0, u_w1, u_dput, u_get2, u_dget, u_prop, u_fld, u_setF, u_make, u_makeS, u_met, u_calO, u_orT, u_tupIt, u_dc, u_maxDd, u_dnew, u_tupi, ix_p0, ix_p1, wSl, woNone, woSome]))
      rw [if_neg (by decide)]
      ((try dsimp only); rw [u_seq]; (try simp only [u_asg, u_gN, u_ret, u_retN, u_skip, u_expr, u_ifs, u_c, u_op, u_neg, u_test, u_and, u_or, u_not, u_if, u_nil, u_cons, u_tup, u_lst, u_callP, u_call, u_b, u_chain, u_andV, u_addI, u_subI, u_mulI, u_divI, u_modI, u_powI, u_cmpI, u_eqI, u_eqS, u_eqB, u_abs, u_intI, u_intB, u_newT, u_newF, u_isN, u_notN, wVar, List.set_cons_zero, List.set_cons_succ, List.getElem?_cons_zero, List.getElem?_cons_succ, List.length_cons, List.length_nil, u_lc, u_for, u_r1, u_r2, u_r3, u_num, u_notV, u_yes, u_w0, u_w1, u_dput, u_get2, u_dget, u_prop, u_fld, u_setF, u_make, u_makeS, u_met, u_calO, u_orT, u_tupIt, u_dc, u_maxDd, u_dnew, u_tupi, ix_p0, ix_p1, wSl, woNone, woSome]))
      rw [if_neg (by decide)]
      try simp only [u_asg, u_gN, u_ret, u_retN, u_skip, u_expr, u_ifs, u_c, u_op, u_neg, u_test, u_and, u_or, u_not, u_if, u_nil, u_cons, u_tup, u_lst, u_callP, u_call, u_b, u_chain, u_andV, u_addI, u_subI, u_mulI, u_divI, u_modI, u_powI, u_cmpI, u_eqI, u_eqS, u_eqB, u_abs, u_intI, u_intB, u_newT, u_newF, u_isN, u_notN, wVar, List.set_cons_zero, List.set_cons_succ, List.getElem?_cons_zero, List.getElem?_cons_succ, List.length_cons, List.length_nil, u_lc, u_for, u_r1, u_r2, u_r3, u_num, u_notV, u_yes, u_w0, u_w1, u_dput, u_get2, u_dget, u_prop, u_fld, u_setF, u_make, u_makeS, u_met, u_calO, u_orT, u_tupIt, u_dc, u_maxDd, u_dnew, u_tupi, ix_p0, ix_p1, wSl, woNone, woSome]
      rw [if_neg (by decide)]
      try simp only [u_asg, u_gN, u_ret, u_retN, u_skip, u_expr, u_ifs, u_c, u_op, u_neg, u_test, u_and, u_or, u_not, u_if, u_nil, u_cons, u_tup, u_lst, u_callP, u_call, u_b, u_chain, u_andV, u_addI, u_subI, u_mulI, u_divI, u_modI, u_powI, u_cmpI, u_eqI, u_eqS, u_eqB, u_abs, u_intI, u_intB, u_newT, u_newF, u_isN, u_notN, wVar, List.set_cons_zero, List.set_cons_succ, List.getElem?_cons_zero, List.getElem?_cons_succ, List.length_cons, List.length_nil, u_lc, u_for, u_r1, u_r2, u_r3, u_num, u_notV, u_yes, u_w0, u_w1, u_dput, u_get2, u_dget, u_prop, u_fld, u_setF, u_make, u_makeS, u_met, u_calO, u_orT, u_tupIt, u_dc, u_maxDd, u_dnew, u_tupi, ix_p0, ix_p1, wSl, woNone, woSome]
      refine ⟨by decide, ?_⟩
      rw [u_ixLd (show atI _ _ = some (.str "mode") from rfl)]
      exact ⟨_, _, _, rfl, by simp, rfl, by decide, fin_sub sb q⟩
    | modes =>
      refine ⟨by simp [errs], ?_⟩
      dsimp only [List.replicate, List.set_cons_succ, List.set_cons_zero]
      rw [u_seq]
      simp only [u_asg, u_gN, u_ret, u_retN, u_skip, u_expr, u_ifs, u_c, u_op, u_neg, u_test, u_and, u_or, u_not, u_if, u_nil, u_cons, u_tup, u_lst, u_callP, u_call, u_b, u_chain, u_andV, u_addI, u_subI, u_mulI, u_divI, u_modI, u_powI, u_cmpI, u_eqI, u_eqS, u_eqB, u_abs, u_intI, u_intB, u_newT, u_newF, u_isN, u_notN, wVar, List.set_cons_zero, List.set_cons_succ, List.getElem?_cons_zero, List.getElem?_cons_succ, List.length_cons, List.length_nil, u_lc, u_for, u_r1, u_r2, u_r3, u_num, u_notV, u_yes, u_w0, u_w1, u_dput, u_get2, u_dget, u_prop, u_fld, u_setF, u_make, u_makeS, u_met, u_calO, u_orT, u_tupIt, u_dc, u_maxDd, u_dnew, u_tupi, ix_p0, ix_p1, wSl, woNone, woSome]
      rw [isN_xob]
      simp only [Bool.false_eq_true, if_false]
      ((try dsimp only); rw [u_seq]; (try simp only [u_asg, u_gN, u_ret, u_retN, u_skip, u_expr, u_ifs, u_c, u_op, u_neg, u_test, u_and, u_or, u_not, u_if, u_nil, u_cons, u_tup, u_lst, u_callP, u_call, u_b, u_chain, u_andV, u_addI, u_subI, u_mulI, u_divI, u_modI, u_powI, u_cmpI, u_eqI, u_eqS, u_eqB, u_abs, u_intI, u_intB, u_newT, u_newF, u_isN, u_notN, wVar, List.set_cons_zero, List.set_cons_succ, List.getElem?_cons_zero, List.getElem?_cons_succ, List.length_cons, List.length_nil, u_lc, u_for, u_r1, u_r2, u_r3, u_num, u_notV, u_yes, u_w0, u_w1, u_dput, u_get2, u_dget, u_prop, u_fld, u_setF, u_make, u_makeS, u_met, u_calO, u_orT, u_tupIt, u_dc, u_maxDd, u_dnew, u_tupi, ix_p0, ix_p1, wSl, woNone, woSome]))
      refine isX_go (b := false) (by simp [xtab]) ((isX_go (b := false) (by simp [xtab]) (isX_go (b := false) (by simp [xtab]) ?_)))
      refine ⟨sz_le (by decide), fun p1 hp1 => ?_⟩
      ((try dsimp only); rw [u_seq]; (try simp only [u_asg, u_gN, u_ret, u_retN, u_skip, u_expr, u_ifs, u_c, u_op, u_neg, u_test, u_and, u_or, u_not, u_if, u_nil, u_cons, u_tup, u_lst, u_callP, u_call, u_b, u_chain, u_andV, u_addI, u_subI, u_mulI, u_divI, u_modI, u_powI, u_cmpI, u_eqI, u_eqS, u_eqB, u_abs, u_intI, u_intB, u_newT, u_newF, u_isN, u_notN, wVar, List.set_cons_zero, List.set_cons_succ, List.getElem?_cons_zero, List.getElem?_cons_succ, List.length_cons, List.length_nil, u_lc, u_for, u_r1, u_r2, u_r3, u_num, u_notV, u_yes, u_w0, u_w1, u_dput, u_get2, u_dget, u_prop, u_fld, u_setF, u_make, u_makeS, u_met, u_calO, u_orT, u_tupIt, u_dc, u_maxDd, u_dnew, u_tupi, ix_p0, ix_p1, wSl, woNone, woSome]))
      refine isX_go (b := false) (by simp [xtab]) (isX_go (b := false) (by simp [xtab]) (isX_go (b := false) (by simp [xtab]) ?_))
      refine ⟨sz_le (by decide), ?_⟩
      refine ⟨_, _, lst_ref up_same, rfl, sz_le (by decide), fun p2 hp2 => ?_⟩
      ((try dsimp only); rw [u_seq]; (try simp only [u_asg, u_gN, u_ret, u_retN, u_skip, u_expr, u_ifs, u_c, u_op, u_neg, u_test, u_and, u_or, u_not, u_if, u_nil, u_cons, u_tup, u_lst, u_callP, u_call, u_b, u_chain, u_andV, u_addI, u_subI, u_mulI, u_divI, u_modI, u_powI, u_cmpI, u_eqI, u_eqS, u_eqB, u_abs, u_intI, u_intB, u_newT, u_newF, u_isN, u_notN, wVar, List.set_cons_zero, List.set_cons_succ, List.getElem?_cons_zero, List.getElem?_cons_succ, List.length_cons, List.length_nil, u_lc, u_for, u_r1, u_r2, u_r3, u_num, u_notV, u_yes, u_w0, u_w1, u_dput, u_get2, u_dget, u_prop, u_fld, u_setF, u_make, u_makeS, u_met, u_calO, u_orT, u_tupIt, u_dc, u_maxDd, u_dnew, u_tupi, ix_p0, ix_p1, wSl, woNone, woSome]))
      simp only [wMethT, u_asg, u_gN, u_ret, u_retN, u_skip, u_expr, u_ifs, u_c, u_op, u_neg, u_test, u_and, u_or, u_not, u_if, u_nil, u_cons, u_tup, u_lst, u_callP, u_call, u_b, u_chain, u_andV, u_addI, u_subI, u_mulI, u_divI, u_modI, u_powI, u_cmpI, u_eqI, u_eqS, u_eqB, u_abs, u_intI, u_intB, u_newT, u_newF, u_isN, u_notN, wVar, List.set_cons_zero, List.set_cons_succ, List.getElem?_cons_zero, List.getElem?_cons_succ, List.length_cons, List.length_nil, u_lc, u_for, u_r1, u_r2, u_r3, u_num, u_notV, u_yes, u_w0, u_w1, u_dput, u_get2, u_dget, u_prop, u_fld, u_setF, u_make, u_makeS, u_met, u_calO, u_orT, u_tupIt, u_dc, u_maxDd, u_dnew, u_tupi, ix_p0, ix_p1, wSl, woNone, woSome]
      refine ⟨⟨_, lst_ref up_same⟩, isX_go (b := true) (by simp [xtab]) ?_⟩
      refine ⟨p2, _, _, rfl, rfl, up_same, lt_sz (by decide), ?_⟩
      rw [up_up]
      ((try dsimp only); rw [u_seq]; (try simp only [u_asg, u_gN, u_ret, u_retN, u_skip, u_expr, u_ifs, u_c, u_op, u_neg, u_test, u_and, u_or, u_not, u_if, u_nil, u_cons, u_tup, u_lst, u_callP, u_call, u_b, u_chain, u_andV, u_addI, u_subI, u_mulI, u_divI, u_modI, u_powI, u_cmpI, u_eqI, u_eqS, u_eqB, u_abs, u_intI, u_intB, u_newT, u_newF, u_isN, u_notN, wVar, List.set_cons_zero, List.set_cons_succ, List.getElem?_cons_zero, List.getElem?_cons_succ, List.length_cons, List.length_nil, u_lc, u_for, u_r1, u_r2, u_r3, u_num, u_notV, u_yes, u_w0, u_w1, u_dput, u_get2, u_dget, u_prop, u_fld, u_setF, u_make, u_makeS, u_met, u_calO, u_orT, u_tupIt, u_dc, u_maxDd, u_dnew, u_tupi, ix_p0, ix_p1, wSl, woNone, woSome]))
      refine isX_go (b := true) (by simp [xtab]) (isX_go (b := false) (by simp [xtab]) (isX_go (b := false) (by simp [xtab]) ?_))
      refine ⟨sz_le (by decide), ?_⟩
      ((try dsimp only); rw [u_seq]; (try simp only [u_asg, u_gN, u_ret, u_retN, u_skip, u_expr, u_ifs, u_c, u_op, u_neg, u_test, u_and, u_or, u_not, u_if, u_nil, u_cons, u_tup, u_lst, u_callP, u_call, u_b, u_chain, u_andV, u_addI, u_subI, u_mulI, u_divI, u_modI, u_powI, u_cmpI, u_eqI, u_eqS, u_eqB, u_abs, u_intI, u_intB, u_newT, u_newF, u_isN, u_notN, wVar, List.set_cons_zero, List.set_cons_succ, List.getElem?_cons_zero, List.getElem?_cons_succ, List.length_cons, List.length_nil, u_lc, u_for, u_r1, u_r2, u_r3, u_num, u_notV, u_yes, u_w0, u_w1, u_dput, u_get2, u_dget, u_prop, u_fld, u_setF, u_make, u_makeS, u_met, u_calO, u_orT, u_tupIt, u_dc, u_maxDd, u_dnew, u_tupi, ix_p0, ix_p1, wSl, woNone, woSome]))
      have e2 : (up (up h' p1 (AO.lst [D.bl false, D.bl false, D.bl false])) p2 (AO.lst ([D.bl false, D.bl false, D.bl false] ++ [D.bl false, D.bl false, D.bl false] ++ [D.bl true]))) p2 = some (AO.lst (([false, false, false, false, false, false, true] : List Bool).map D.bl)) := up_same
      have sb : Sub h' (up (up h' p1 (AO.lst [D.bl false, D.bl false, D.bl false])) p2 (AO.lst ([D.bl false, D.bl false, D.bl false] ++ [D.bl false, D.bl false, D.bl false] ++ [D.bl true]))) := (sub_up hp1).trans (sub_up hp2)
      generalize (up (up h' p1 (AO.lst [D.bl false, D.bl false, D.bl false])) p2 (AO.lst ([D.bl false, D.bl false, D.bl false] ++ [D.bl false, D.bl false, D.bl false] ++ [D.bl true]))) = g at e2 sb ⊢
      clear hp1 hp2
      simp only [wMethT, u_asg, u_gN, u_ret, u_retN, u_skip, u_expr, u_ifs, u_c, u_op, u_neg, u_test, u_and, u_or, u_not, u_if, u_nil, u_cons, u_tup, u_lst, u_callP, u_call, u_b, u_chain, u_andV, u_addI, u_subI, u_mulI, u_divI, u_modI, u_powI, u_cmpI, u_eqI, u_eqS, u_eqB, u_abs, u_intI, u_intB, u_newT, u_newF, u_isN, u_notN, wVar, List.set_cons_zero, List.set_cons_succ, List.getElem?_cons_zero, List.getElem?_cons_succ, List.length_cons, List.length_nil, u_lc, u_for, u_r1, u_r2, u_r3, u_num, u_notV, u_yes, u_w0, u_w1, u_dput, u_get2, u_dget, u_prop, u_fld, u_setF, u_make, u_makeS, u_met, u_calO, u_orT, u_tupIt, u_dc, u_maxDd, u_dnew, u_tupi, ix_p0, ix_p1, wSl, woNone, woSome]
      refine ⟨⟨_, lst_ref e2⟩, [false, false, false, false, false, false, true], true, lst_ref e2, rfl, ?_⟩
      dsimp only
      rw [u_eqI, show (!decide (((([false, false, false, false, false, false, true] : List Bool).countP fun b => b == true : Nat) : Int) = 1)) = false from by decide]
      dsimp only
      rw [if_neg (by decide)]
      refine ⟨by decide, _, _, _, false, rfl, by simp, any3 (by simp [xtab]) (by simp [xtab]) (by simp [xtab]), ?_⟩
      dsimp only
      rw [if_neg (by decide)]
      ((try dsimp only); rw [u_seq]; (try simp only [u_asg, u_gN, u_ret, u_retN, u_skip, u_expr, u_ifs, u_c, u_op, u_neg, u_test, u_and, u_or, u_not, u_if, u_nil, u_cons, u_tup, u_lst, u_callP, u_call, u_b, u_chain, u_andV, u_addI, u_subI, u_mulI, u_divI, u_modI, u_powI, u_cmpI, u_eqI, u_eqS, u_eqB, u_abs, u_intI, u_intB, u_newT, u_newF, u_isN, u_notN, wVar, List.set_cons_zero, List.set_cons_succ, List.getElem?_cons_zero, List.getElem?_cons_succ, List.length_cons, List.length_nil, u_lc, u_for, u_r1, u_r2, u_r3, u_num, u_notV, u_yes, u_w0, u_w1, u_dput, u_get2, u_dget, u_prop, u_fld, u_setF, u_make, u_makeS, u_met, u_calO, u_orT, u_tupIt, u_dc, u_maxDd, u_dnew, u_tupi, ix_p0, ix_p1, wSl, woNone, woSome]))
      simp only [wMethT, u_asg, u_gN, u_ret, u_retN, u_skip, u_expr, u_ifs, u_c, u_op, u_neg, u_test, u_and, u_or, u_not, u_if, u_nil, u_cons, u_tup, u_lst, u_callP, u_call, u_b, u_chain, u_andV, u_addI, u_subI, u_mulI, u_divI, u_modI, u_powI, u_cmpI, u_eqI, u_eqS, u_eqB, u_abs, u_intI, u_intB, u_newT, u_newF, u_isN, u_notN, wVar, List.set_cons_zero, List.set_cons_succ, List.getElem?_cons_zero, List.getElem?_cons_succ, List.length_cons, List.length_nil, u_lc, u_for, u_r1, u_r2, u_r3, u_num, u_notV, u_yes, u_w0, u_w1, u_dput, u_get2, u_dget, u_prop, u_fld, u_setF, u_make, u_makeS, u_met, u_calO, u_orT, u_tupIt, u_dc, u_maxDd, u_dnew, u_tupi, ix_p0, ix_p1, wSl, woNone, woSome]
      refine ⟨⟨_, lst_ref e2⟩, [false, false, false, false, false, false, true], true, 6, lst_ref e2, rfl, rfl, ?_⟩
      ((try dsimp only); rw [u_seq]; (try simp only [u_asg, u_gN, u_ret, u_retN, u_skip, u_expr, u_ifs, u_c, u_op, u_neg, u_test, u_and, u_or, u_not, u_if, u_nil, u_cons, u_tup, u_lst, u_callP, u_call, u_b, u_chain, u_andV, u_addI, u_subI, u_mulI, u_divI, u_modI, u_powI, u_cmpI, u_eqI, u_eqS, u_eqB, u_abs, u_intI, u_intB, u_newT, u_newF, u_isN, u_notN, wVar, List.set_cons_zero, List.set_cons_succ, List.getElem?_cons_zero, List.getElem?_cons_succ, List.length_cons, List.length_nil, u_lc, u_for, u_r1, u_r2, u_r3, u_num, u_notV, u_yes, u_w0, u_w1, u_dput, u_get2, u_dget, u_prop, u_fld, u_setF, u_make, u_makeS, u_met, u_calO, u_orT, u_tupIt, u_dc, u_maxDd, u_dnew, u_tupi, ix_p0, ix_p1, wSl, woNone, woSome]))
      refine ⟨by decide, ints3 ?_⟩
      try simp only [u_asg, u_gN, u_ret, u_retN, u_skip, u_expr, u_ifs, u_c, u_op, u_neg, u_test, u_and, u_or, u_not, u_if, u_nil, u_cons, u_tup, u_lst, u_callP, u_call, u_b, u_chain, u_andV, u_addI, u_subI, u_mulI, u_divI, u_modI, u_powI, u_cmpI, u_eqI, u_eqS, u_eqB, u_abs, u_intI, u_intB, u_newT, u_newF, u_isN, u_notN, wVar, List.set_cons_zero, List.set_cons_succ, List.getElem?_cons_zero, List.getElem?_cons_succ, List.length_cons, List.length_nil, u_lc, u_for, u_r1, u_r2, u_r3, u_num, u_notV, u_yes, u_w0, u_w1, u_dput, u_get2, u_dget, u_prop, u_fld, u_setF, u_make, u_makeS, u_met, u_calO, u_orT, u_tupIt, u_dc, u_maxDd, u_dnew, u_tupi, ix_p0, ix_p1, wSl, woNone, woSome]
      refine ⟨by decide, ints2 ?_⟩
      refine ⟨by decide, ?_⟩
      show dEq (fun b => !b) (.lst [.bl true, .bl false, .bl false]) (.lst [.bl true, .bl false, .bl false]) g _
      refine same_lst (fl_b3 true false false) (by decide) ?_
      dsimp only
      rw [if_neg (by decide)]
      ((try dsimp only); rw [u_seq]; (try simp only [u_asg, u_gN, u_ret, u_retN, u_skip, u_expr, u_ifs, u_c, u_op, u_neg, u_test, u_and, u_or, u_not, u_if, u_nil, u_cons, u_tup, u_lst, u_callP, u_call, u_b, u_chain, u_andV, u_addI, u_subI, u_mulI, u_divI, u_modI, u_powI, u_cmpI, u_eqI, u_eqS, u_eqB, u_abs, u_intI, u_intB, u_newT, u_newF, u_isN, u_notN, wVar, List.set_cons_zero, List.set_cons_succ, List.getElem?_cons_zero, List.getElem?_cons_succ, List.length_cons, List.length_nil, u_lc, u_for, u_r1, u_r2, u_r3, u_num, u_notV, u_yes, u_w0, u_w1, u_dput, u_get2, u_dget, u_prop, u_fld, u_setF, u_make, u_makeS, u_met, u_calO, u_orT, u_tupIt, u_dc, u_maxDd, u_dnew, u_tupi, ix_p0, ix_p1, wSl, woNone, woSome]))
      rw [if_neg (by decide)]
      ((try dsimp only); rw [u_seq]; (try simp only [u_asg, u_gN, u_ret, u_retN, u_skip, u_expr, u_ifs, u_c, u_op, u_neg, u_test, u_and, u_or, u_not, u_if, u_nil, u_cons, u_tup, u_lst, u_callP, u_call, u_b, u_chain, u_andV, u_addI, u_subI, u_mulI, u_divI, u_modI, u_powI, u_cmpI, u_eqI, u_eqS, u_eqB, u_abs, u_intI, u_intB, u_newT, u_newF, u_isN, u_notN, wVar, List.set_cons_zero, List.set_cons_succ, List.getElem?_cons_zero, List.getElem?_cons_succ, List.length_cons, List.length_nil, u_lc, u_for, u_r1, u_r2, u_r3, u_num, u_notV, u_yes, u_w0, u_w1, u_dput, u_get2, u_dget, u_prop, u_fld, u_setF, u_make, u_makeS, u_met, u_calO, u_orT, u_tupIt, u_dc, u_maxDd, u_dnew, u_tupi, ix_p0, ix_p1, wSl, woNone, woSome]))
      rw [if_neg (by decide)]
      try simp only [u_asg, u_gN, u_ret, u_retN, u_skip, u_expr, u_ifs, u_c, u_op, u_neg, u_test, u_and, u_or, u_not, u_if, u_nil, u_cons, u_tup, u_lst, u_callP, u_call, u_b, u_chain, u_andV, u_addI, u_subI, u_mulI, u_divI, u_modI, u_powI, u_cmpI, u_eqI, u_eqS, u_eqB, u_abs, u_intI, u_intB, u_newT, u_newF, u_isN, u_notN, wVar, List.set_cons_zero, List.set_cons_succ, List.getElem?_cons_zero, List.getElem?_cons_succ, List.length_cons, List.length_nil, u_lc, u_for, u_r1, u_r2, u_r3, u_num, u_notV, u_yes, u_w0, u_w1, u_dput, u_get2, u_dget, u_prop, u_fld, u_setF, u_make, u_makeS, u_met, u_calO, u_orT, u_tupIt, u_dc, u_maxDd, u_dnew, u_tupi, ix_p0, ix_p1, wSl, woNone, woSome]
      rw [if_pos (by decide)]
      exact ⟨by decide, fin_sub sb q⟩
end PX
namespace PX
open PySem PySem.Spec L2 C8 DL PK F1
abbrev kStr (w : Str) : Key := Sum.inr w
def tbl : List (Key × D) := [(kStr "write", D.tup [.int 1, .int 2]), (kStr "repeat", .tup [.int 0, .int 3])]
end PX
namespace PX
open PySem PySem.Spec L2 C8 DL PK F1
/-! odd values -/
end PX
namespace PK
open PySem PySem.Spec L2 C8 DL
/-! ### bodies and words may be shown -/
structure Rps (xs : List D) (k n : Nat) : Prop where
  da : dats xs = true
  sh : PyData.showableAll (pds xs) = true
  de : PyData.depthAll (pds xs) ≤ k
  le : ((PyData.shownAll (pds xs)).map fun t => t.length + 2).sum ≤ n
theorem Rps.up {xs : List D} {k n l m : Nat} (r : Rps xs k n) (h1 : k ≤ l) (h2 : n ≤ m) : Rps xs l m := ⟨r.da, r.sh, Nat.le_trans r.de h1, Nat.le_trans r.le h2⟩
end PK
namespace PX
open PySem PySem.Spec L2 C8 DL PK F1
/-! ### measures of rows -/
theorem ths_ap {xs ys : List D} : ths (xs ++ ys) = (ths xs && ths ys) := by
  induction xs with
  | nil => rw [List.nil_append, ths, Bool.true_and]
  | cons x xs ih => rw [List.cons_append, ths, ths, ih, Bool.and_assoc]
end PX
namespace PX
open PySem PySem.Spec L2 C8 DL PK F1
/-! ### the first wrong action, judged by the last part -/
end PX
namespace PX
open PySem PySem.Spec L2 C8 DL PK F1
theorem mo__law_heard (z : Ad) : MoH (S__law_heard z) := fun t mt h Q Q' X X' hq hx q => mt _ _ _ _ _ (fun _ h z => hq _ h z) (fun x h ⟨C, fs, w, v, e1, e2, z⟩ => ⟨C, fs, w, v, e1, e2, hq _ _ z⟩) q
/-! ### the actions among things -/
theorem Inv0.ext {h0 h g : AH} {p : Addr} {m : Int} (I : Inv0 h0 p m h) (s : Sub h g) : Inv0 h0 p m g :=
  ⟨let ⟨o, e, r⟩ := I.pen; ⟨o, s _ _ e, r⟩, fun b o e c => s _ _ (I.old b o e c), I.isp⟩
theorem cnt_full : ∀ (n : Nat) (b : List Ac), okB b = true → dptB b ≤ n → PX.cnt n (encs b) = cntB b
  | 0, b, _, h => by
    cases b with
    | nil => rw [encs, PX.cnt, cntB]
    | cons a r =>
      rw [dptB] at h
      have := dptA_pos (a := a)
      omega
  | n + 1, [], _, _ => by rw [encs, PX.cnt, cntB]; rfl
  | n + 1, a :: r, ok, h => by
    obtain ⟨oa, or_⟩ := okB_cons ok
    rw [dptB] at h
    have h0 := dpt_eq (a := a)
    have h1 := cnt_full n (inn a) (okA_inn oa) (by omega)
    have h2 := cnt_full (n + 1) r or_ (by omega)
    rw [PX.cnt] at h2 ⊢
    rw [encs, List.map_cons, List.sum_cons, headD_ok oa, if_pos rfl, innL_enc oa, h2, h1, cntB, cnt_inn]
    omega
end PX
namespace F1
open PySem PySem.Spec L2 C8 DL PK
end F1
namespace DL
open PySem PySem.Spec L2 C8
/-! ### the ledger's methods -/
def InR (es : Prs) : Prop := ∀ e ∈ es, 0 ≤ e.1 ∧ e.1 ≤ 1000000
theorem InR.append {es fs : Prs} (a : InR es) (b : InR fs) : InR (es ++ fs) := fun e he => by
  rcases List.mem_append.mp he with h | h
  · exact a e h
  · exact b e h
theorem big_size : 100000 ≤ sizeLine := by decide
/-! ### the laws' own way to a ledger -/
/-- a tuple, its object known or not -/
def IsT (d : D) (xs : List D) : Prop := d = .tup xs ∨ d = .tpl xs
theorem IsT.iter {d : D} {xs : List D} (t : IsT d xs) {ρ : EnvD} {h : AH} {X : KX} {i : Nat} {R : List D → (AH → Prop) → AH → Prop} (e : ρ[i]? = some (some d)) (k : R xs (fun _ => True) h) : iTupD (wVar i) ρ h R X := by
  rw [u_tupi, u_var e]
  rcases t with rfl | rfl
  · exact k
  · exact k
end DL
namespace DL
open PySem PySem.Spec L2 C8 PyProof.Rows
/-! ### tuple * int, up to 16,000,000 items -/
def rRepTW (K : PySem.W.Frag) : R2 := fun x y H Q => ∃ l k xs, x = .ref l ∧ y = .int k ∧ SqT K H l xs ∧ 0 < xs.length ∧ 2 ≤ k ∧ k ≤ 16000 ∧ xs.length ≤ 1000 ∧ ∀ p, H p = none → Q (.ref p) (upd H p (.tup (List.replicate k.toNat xs).flatten))
theorem rep_small {n : Nat} {k : Int} (h0 : 0 < n) (h1 : 2 ≤ k) (h2 : k ≤ 16000) (h3 : n ≤ 1000) : ((n : Nat) : Int) * k ≤ 16000000 ∧ k.toNat * n ≤ 16000000 := by
  have a1 : ((n : Nat) : Int) * k ≤ 1000 * k := Int.mul_le_mul_of_nonneg_right (by omega) (by omega)
  have a2 : k.toNat * n ≤ 16000 * 1000 := Nat.mul_le_mul (by omega) h3
  exact ⟨by omega, by omega⟩
section
variable {X : Cx}
theorem op_repTW : OpR X (binaryOp .Mult) (rRepTW X.K) := by
  intro pins s σ H x y v u Q I rx ry ⟨l, k, xs, ex, ey, hT, hne, h1, h2, h3, q⟩
  subst ex ey
  cases rx
  obtain ⟨t, rfl⟩ := ry
  obtain ⟨its, r, tp, hs⟩ := I.tuple hT
  obtain ⟨o, ho, hc, n, hd⟩ := tp
  obtain ⟨cls, dd, data, sl⟩ := o
  obtain rfl : cls = .type "tuple" := hc
  obtain rfl : data = .seq its.toArray n := hd
  have len : its.length = xs.length := r.length.symm
  obtain ⟨m1, m2⟩ := rep_small hne h1 h2 h3
  have size : its.toArray.size = xs.length := by rw [List.size_toArray, len]
  have full : its.toArray.isEmpty = false := by
    cases its with
    | nil => rw [← len] at hne; cases hne
    | cons _ _ => rfl
  have fits : ∀ {α : Type} (zs : List α), zs.length = xs.length → (List.replicate k.toNat zs).flatten.length ≤ sizeLine := fun zs e => by
    rw [PyProof.Rows.lm_len_rep_flat, e, sizeLine_eq]; omega
  have mul := tuple_mulW l its.toArray n dd sl k t (by rw [decide_eq_false (show ¬ k < -(2 ^ 63) by omega), decide_eq_false (show ¬ k ≥ 2 ^ 63 by omega)]; rfl) (by rw [full, Bool.false_or]; exact beq_eq_false_iff_ne.mpr (by omega))
    (by rw [full, Bool.or_false]; exact decide_eq_false (by omega)) (by rw [size]; omega) (by unfold Builtin.Tuple.tupleTooMany; rw [size, sizeLine_eq]; exact decide_eq_false (by omega)) (by rw [size_rep, List.size_toArray]; exact fits its len)
  refine wpAny_binaryOp_repeat_ref (T := "tuple") (U := "int") (by decide) ⟨_, ho, rfl⟩ (fun z => typeIs_int z k t) noFill_tuple_mul F.fills_int_mul F.slot_int_rmul repeat_tuple F.slot_int_index.lookup ?_
  refine call_meets F.slot_int_rmul (typeIs_int s k t) F.entry_int_rmul (F.args_int_rmul_2 _ _) (int_rmul_tuple k t l its.toArray n dd sl) ⟨ho, rfl, ⟨_, ho, rfl⟩, ?_⟩
  refine call_meets F.slot_tuple_mul ⟨_, ho, rfl⟩ F.entry_tuple_mul (F.args_tuple_mul_2 _ _) mul ⟨ho, ?_⟩
  rw [size_rep]
  exact ⟨.ref s.heap.objs.size, _, I.laid (t' := s.toks) (o := .tup (List.replicate k.toNat xs).flatten) (fun b ob z => Heap.get?_push_of_some _ z) (Nat.le_refl _) ⟨fits xs rfl, _, r.rep k.toNat, IsTup.new _ _⟩, rfl, q _ (I.hok.fresh (Nat.le_refl _))⟩
variable {E : XK} {a b : Expr} {wa wb : WE} {pos : Pos}
end
end DL
namespace DL
open PySem PySem.Spec L2 C8 PyProof.Rows
/-! ### tuple * int, none, once or often -/
theorem tuple_mul1 (l : Addr) (items : Array Value) (n : Nat) (dd : Option Addr) (sl : Array (Option Value)) (u : Tok) :
    Meets (Builtin.«tuple.__mul__» ⟨[.ref l, .int 1 u], []⟩) (fun _ R s => s.heap.get? l = some { cls := .type "tuple", dict := dd, data := .seq items n, slots := sl } ∧ R (.ok (.ret (Value.ref l))) s) :=
  .of_wp fun prog w A R s h => by
    obtain ⟨hp, g, d, tk, os⟩ := s
    obtain ⟨hl, h⟩ := h
    have f1 := AutoSeq1.idx_int
    wp_walk using wpAny_loadPart' hl
    repeat (first
      | (refine wpAny_ite_false (by decide) ?_; wp_walk using wpAny_loadPart' hl)
      | (refine wpAny_ite_true (by simp) ?_; wp_walk using wpAny_loadPart' hl))
    exact ⟨_, rfl, h⟩
theorem tuple_mul0 (l : Addr) (items : Array Value) (n : Nat) (dd : Option Addr) (sl : Array (Option Value)) (u : Tok) (hi : items.isEmpty = false) :
    Meets (Builtin.«tuple.__mul__» ⟨[.ref l, .int 0 u], []⟩) (fun _ R s => s.heap.get? l = some { cls := .type "tuple", dict := dd, data := .seq items n, slots := sl } ∧
      R (.ok (.ret (Value.ref s.heap.objs.size))) { s with heap := s.heap.push { cls := Value.type "tuple", data := Data.seq #[] }, toks := s.toks }) :=
  .of_wp fun prog w A R s h => by
    obtain ⟨hp, g, d, tk, os⟩ := s
    obtain ⟨hl, h⟩ := h
    have f1 := AutoSeq1.idx_int
    wp_walk using wpAny_loadPart' hl
    repeat (first
      | (refine wpAny_ite_false (by decide) ?_; wp_walk using wpAny_loadPart' hl)
      | (refine wpAny_ite_false (by rw [hi]; decide) ?_; wp_walk using wpAny_loadPart' hl)
      | (refine wpAny_ite_true (by simp) ?_; wp_walk using wpAny_loadPart' hl))
    exact ⟨_, rfl, h⟩
def rRepTA (K : PySem.W.Frag) : R2 := fun x y H Q => ∃ l k xs, x = .ref l ∧ y = .int k ∧ SqT K H l xs ∧ 0 < xs.length ∧ 0 ≤ k ∧ k ≤ 16000 ∧ xs.length ≤ 1000 ∧ (k = 1 → Q (.ref l) H) ∧ ∀ p, H p = none → Q (.ref p) (upd H p (.tup (List.replicate k.toNat xs).flatten))
section
variable {X : Cx}
theorem op_repTA : OpR X (binaryOp .Mult) (rRepTA X.K) := by
  intro pins s σ H x y v u Q I rx ry ⟨l, k, xs, ex, ey, hT, hne, h1, h2, h3, q1, q⟩
  by_cases big : 2 ≤ k
  · exact op_repTW pins s σ H x y v u Q I rx ry ⟨l, k, xs, ex, ey, hT, hne, big, h2, h3, q⟩
  subst ex ey
  cases rx
  obtain ⟨t, rfl⟩ := ry
  obtain ⟨its, r, tp, hs⟩ := I.tuple hT
  obtain ⟨o, ho, hc, n, hd⟩ := tp
  obtain ⟨cls, dd, data, sl⟩ := o
  obtain rfl : cls = .type "tuple" := hc
  obtain rfl : data = .seq its.toArray n := hd
  have full : its.toArray.isEmpty = false := by
    cases its with
    | nil => rw [r.length] at hne; cases hne
    | cons _ _ => rfl
  have dec : k = 0 ∨ k = 1 := by omega
  refine wpAny_binaryOp_repeat_ref (T := "tuple") (U := "int") (by decide) ⟨_, ho, rfl⟩ (fun z => typeIs_int z k t) noFill_tuple_mul F.fills_int_mul F.slot_int_rmul repeat_tuple F.slot_int_index.lookup ?_
  refine call_meets F.slot_int_rmul (typeIs_int s k t) F.entry_int_rmul (F.args_int_rmul_2 _ _) (int_rmul_tuple k t l its.toArray n dd sl) ⟨ho, rfl, ⟨_, ho, rfl⟩, ?_⟩
  rcases dec with rfl | rfl
  · refine call_meets F.slot_tuple_mul ⟨_, ho, rfl⟩ F.entry_tuple_mul (F.args_tuple_mul_2 _ _) (tuple_mul0 l its.toArray n dd sl t full) ⟨ho, ?_⟩
    exact ⟨.ref s.heap.objs.size, _, I.laid (t' := s.toks) (o := .tup []) (fun b ob z => Heap.get?_push_of_some _ z) (Nat.le_refl _) ⟨Nat.zero_le _, [], .nil, IsTup.new _ _⟩, rfl, q _ (I.hok.fresh (Nat.le_refl _))⟩
  · refine call_meets F.slot_tuple_mul ⟨_, ho, rfl⟩ F.entry_tuple_mul (F.args_tuple_mul_2 _ _) (tuple_mul1 l its.toArray n dd sl t) ⟨ho, ?_⟩
    exact ⟨.ref l, H, I, rfl, q1 rfl⟩
def dMulTA (x y : D) (h : AH) (Q : KD) : Prop := ∃ xs k, x = .tup xs ∧ y = .int k ∧ 0 < xs.length ∧ 0 ≤ k ∧ k ≤ 16000 ∧ xs.length ≤ 1000 ∧ Q (.tup (List.replicate k.toNat xs).flatten) h
theorem dMulTA_ok {K : PySem.W.Frag} : OpD K (rRepTA K) dMulTA where
  to := by
    rintro F h H x y vx vy Q S rx ry ⟨xs, k, rfl, rfl, h0, h1, h2, h3, q⟩
    cases ry
    cases rx with
    | @tup a _ vs hs rs =>
      have el := rs.length
      refine ⟨a, k, vs, rfl, rfl, sqt_of S.fz hs, by omega, h1, h2, by omega, fun e => ?_, S.newT ?_ q⟩
      · subst e
        rw [show (List.replicate (Int.toNat 1) xs).flatten = xs by simp] at q
        exact q.at S (.tup hs rs)
      · generalize k.toNat = n
        induction n with
        | zero => exact .nil
        | succ n ih => rw [List.replicate_succ, List.replicate_succ, List.flatten_cons, List.flatten_cons]; exact rs.append ih
  mo := by
    rintro x y h Q Q' hq ⟨xs, k, e1, e2, h0, h1, h2, h3, q⟩
    exact ⟨xs, k, e1, e2, h0, h1, h2, h3, hq _ _ q⟩
variable {E : XK} {a b : Expr} {wa wb : WE} {pos : Pos}
theorem ae_mulTA (ha : AE X E a wa) (hb : AE X E b wb) : AE X E (.BinOp a .Mult b pos) (wOp dMulTA wa wb) := ae_bin dMulTA_ok op_repTA ha hb
end
end DL
namespace PK
open PySem PySem.Spec L2 C8 DL
/-! ### bodies compared by == -/
theorem fl_str {w : Str} (h : (PyData.str w).canLay0 = true) : Fl (.str w) 0 := ⟨rfl, by rw [pd]; exact h, by rw [pd, PyData.depth]; exact Nat.le_refl _⟩
theorem fl_2 {x y : D} {k : Nat} (h : Fl x k) (h2 : Fl y k) : Fl (.tup [x, y]) (k + 1) := fl_tup fun u hu => by
  have : u = x ∨ u = y := by simpa using hu
  rcases this with rfl | rfl
  · exact h
  · exact h2
end PK
namespace K03
open PySem PySem.Spec L2 C8 DL PK F1 PX
abbrev N_wrong_in : List Str := ["body", "place", "count", "index", "action", "here", "wrong"]
abbrev N_first_wrong : List Str := ["body"]
abbrev N_Program___init__ : List Str := ["self", "actions", "wrong", "size", "reach"]
abbrev N_Program_of : List Str := ["cls", "body"]
abbrev N__law_pen : List Str := ["_law_script"]
abbrev N__law_draw : List Str := ["_law_pen_here", "_law_bound", "_law_digit", "_law_turn", "_law_cell", "_law_great", "_law_mixed"]
abbrev N__law_heard : List Str := ["_law_ask", "_law_caught", "_law_told_here", "error", "_law_marks", "_law_bases", "_law_at"]
abbrev N__law_told : List Str := ["_law_deeds", "_law_is_full", "_law_found"]
abbrev N__law_actions_right : List Str := ["_law_pen_here", "_law_is_full", "_law_inner", "_law_word", "_law_act", "_law_ahead", "_law_deeds", "_law_points", "_law_more"]
abbrev N__law_depth_right : List Str := ["_law_pen_here", "_law_is_full", "_law_seats", "_law_act", "_law_kept", "_law_spot", "_law_word", "_law_deeds", "_law_shallow", "_law_found", "_law_k"]
abbrev N__law_points_right : List Str := ["_law_pen_here", "_law_is_full", "_law_many", "_law_turns", "_law_rest", "_law_pieces", "_law_deeds", "_law_long", "_law_act", "_law_k"]
abbrev N__law_bytes_right : List Str := ["_law_pen_here", "_law_is_full", "_law_turns", "_law_size", "_law_left", "_law_ahead", "_law_deeds", "_law_child", "_law_many", "_law_last", "_law_none"]
abbrev N__law_order_right : List Str := ["_law_pen_here", "_law_is_full", "_law_deep", "_law_odd", "_law_k", "_law_ahead", "_law_lead", "_law_calm", "_law_some", "_law_deeds", "_law_seat"]
abbrev N_law : List Str := ["_law_script", "_law_pen_here", "_law_is_full"]
/-- the tables of the defs that make lambdas -/
def Tb (z : Ad) (h : AH) : Prop := h z.t0 = some (.tab (("_law_told" : Str) ++ ".<locals>." ++ "<lambda>"))
/-! ### promises -/
def outB (b : List Ac) : D := if 2000 < sizB b then .tup [.str "large", .int (sizB b : Nat)] else if 2000 < rchB b then .tup [.str "long", .int (rchB b : Nat)] else .lst [.int (sizB b : Nat), .int (rchB b : Nat)]
def Tld (xs : List D) (d : D) : Prop := (∃ p, fw xs = some p ∧ d = .tup [.str "program", plcD p]) ∨ ∃ b, xs = encs b ∧ Sound b ∧ d = outB b
def S__law_told (z : Ad) : FSpec := fun ds h Q _ => ∃ xs f d, ds = [.tup xs, .bl f] ∧ th (.tup xs) = true ∧ Tld xs d ∧ Tb z h ∧ ∀ h', Sub h h' → Q d h'
def S_right (z : Ad) : FSpec := fun ds h Q _ => ∃ (n : Int) (p : Addr) (f : Bool), ds = [.ref p, .bl f] ∧ Tb z h ∧ PenAt n h p ∧ n < 900000 ∧ ∀ h', Inv0 h p (n + 20) h' → Q (.bl true) h'
abbrev S__law_actions_right (z : Ad) : FSpec := S_right z
abbrev S__law_depth_right (z : Ad) : FSpec := S_right z
abbrev S__law_points_right (z : Ad) : FSpec := S_right z
abbrev S__law_bytes_right (z : Ad) : FSpec := S_right z
abbrev S__law_order_right (z : Ad) : FSpec := S_right z
def S_law (z : Ad) : FSpec := fun ds h Q _ => ∃ js : List Int, ds = [.lk (js.map D.int)] ∧ Tb z h ∧ ∀ h', Q (.bl true) h'
/-! ### the readings -/
def w__law_told (z : Ad) : WS := (wSeq (wAsg (wHeard (PX.S__law_heard z) z.t0 (("_law_told" : Str) ++ ".<locals>." ++ "<lambda>") (wIf (wTruth (wVar 1)) (wCMet z.Program (PX.S_Program_of z) (wC (.ref z.Program)) (wCons (wVar 0) wNil)) (wCMetK z.LineProgram (PX.S_Program_of z) 1 (pickD [0, 1]) (wC (.ref z.LineProgram)) (wCons (wVar 0) wNil)))) (gN 2))
  (wRet (wIf (wTest (wB dIsi (wCons (wVar 2) (wCons (wC (.ty "list")) wNil)))) (wLst false (wCons (wOrE (wProp z.Program (PK.S_Program_size z) (wOp dIx (wVar 2) (wC (.int 0)))) (wProp z.LineProgram (PK.S_Program_size z) (wOp dIx (wVar 2) (wC (.int 0))))) (wCons (wOrE (wProp z.Program (PK.S_Program_reach z) (wOp dIx (wVar 2) (wC (.int 0)))) (wProp z.LineProgram (PK.S_Program_reach z) (wOp dIx (wVar 2) (wC (.int 0))))) wNil))) (wVar 2))))
def w__law_actions_right (z : Ad) : WS := (wSeq (wAsg (wOp (dAdd false) (wC (.int 1)) (wCallP (F1.S__law_draw z) 2 (fun ds _ => ds) (wCons (wVar 0) (wCons (wC (.int 250)) wNil)))) (gN 2))
  (wSeq (wAsg (wOp dIx (wLst false (wCons (wTup (wCons (wC (.str "fork")) wNil)) (wCons (wTup (wCons (wC (.str "repeat")) (wCons (wC (.int 0)) wNil))) wNil))) (wCallP (F1.S__law_draw z) 2 (fun ds _ => ds) (wCons (wVar 0) (wCons (wC (.int 2)) wNil)))) (gN 3))
  (wSeq (wAsg (wOp (dAdd false) (wVar 3) (wTup (wCons (wOp dMulTA (wTup (wCons (wTup (wCons (wC (.str "flush")) wNil)) wNil)) (wVar 2)) wNil))) (gN 4))
  (wSeq (wAsg (wCallP (F1.S__law_draw z) 2 (fun ds _ => ds) (wCons (wVar 0) (wCons (wOp dSub (wC (.int 300)) (wVar 2)) wNil))) (gN 5))
  (wSeq (wAsg (wOp (dAdd false) (wOp (dAdd false) (wOp dMulTA (wTup (wCons (wTup (wCons (wC (.str "flush")) wNil)) wNil)) (wVar 5)) (wTup (wCons (wVar 4) wNil))) (wOp dMulTA (wTup (wCons (wTup (wCons (wC (.str "flush")) wNil)) wNil)) (wOp dSub (wOp dSub (wC (.int 299)) (wVar 2)) (wVar 5)))) (gN 6))
  (wSeq (wAsg (wOp dIx (wLst false (wCons (wC (.int 300)) (wCons (wOp dSub (wC (.int 299)) (wVar 2)) wNil))) (wB dInt (wCons (wOp (dEq fun b => b) (wOp dIx (wVar 3) (wC (.int 0))) (wC (.str "repeat"))) wNil))) (gN 7))
  (wSeq (wIfS (wTest (wOp (dEq fun b => !b) (wCallP (S__law_told z) 2 (fun ds _ => ds) (wCons (wVar 6) (wCons (wVar 1) wNil))) (wLst false (wCons (wVar 7) (wCons (wC (.int 0)) wNil))))) (wRet (wC (.bl false))) wSkip)
  (wSeq (wIfS (wTest (wOp (dEq fun b => !b) (wCallP (S__law_told z) 2 (fun ds _ => ds) (wCons (wOp (dAdd false) (wVar 6) (wTup (wCons (wTup (wCons (wC (.str "quit")) wNil)) wNil))) (wCons (wVar 1) wNil))) (wTup (wCons (wC (.str "program")) (wCons (wTup (wCons (wB dLen (wCons (wVar 6) wNil)) wNil)) wNil))))) (wRet (wC (.bl false))) wSkip)
  (wSeq (wAsg (wOp (dAdd false) (wOp dMulTA (wTup (wCons (wTup (wCons (wC (.str "flush")) wNil)) wNil)) (wC (.int 299))) (wTup (wCons (wOp (dAdd false) (wVar 3) (wTup (wCons (wTup (wCons (wTup (wCons (wC (.str "both")) wNil)) wNil)) wNil))) wNil))) (gN 8))
  (wRet (wOp (dEq fun b => b) (wCallP (S__law_told z) 2 (fun ds _ => ds) (wCons (wVar 8) (wCons (wVar 1) wNil))) (wTup (wCons (wC (.str "program")) (wCons (wTup (wCons (wC (.int 299)) (wCons (wC (.int 0)) wNil))) wNil))))))))))))))
def w__law_depth_right (z : Ad) : WS := (wSeq (wAsg (wLc false (iRng1 (wCons (wC (.int 7)) wNil)) (gN 10) wYes (wCallP (F1.S__law_draw z) 2 (fun ds _ => ds) (wCons (wVar 0) (wCons (wC (.int 3)) wNil))) [10]) (gN 2))
  (wSeq (wAsg (wTup (wCons (wC (.str "line")) wNil)) (gN 3))
  (wSeq (wAsg (wLst true wNil) (gN 4))
  (wSeq (wFor (iSeq (wRev false (wVar 2))) (gN 5) (wSeq (wExpr (wMethT isL dAppend (wVar 4) (wCons (wVar 3) wNil)))
  (wSeq (wAsg (wOp dIx (wLst false (wCons (wTup (wCons (wC (.str "fork")) wNil)) (wCons (wTup (wCons (wC (.str "repeat")) (wCons (wC (.int 1)) wNil))) (wCons (wTup (wCons (wC (.str "repeat")) (wCons (wC (.int 0)) wNil))) wNil)))) (wCallP (F1.S__law_draw z) 2 (fun ds _ => ds) (wCons (wVar 0) (wCons (wC (.int 3)) wNil)))) (gN 6))
  (wAsg (wOp (dAdd false) (wVar 6) (wTup (wCons (wOp (dAdd false) (wOp dMulTA (wTup (wCons (wTup (wCons (wC (.str "flush")) wNil)) wNil)) (wVar 5)) (wTup (wCons (wVar 3) wNil))) wNil))) (gN 3)))))
  (wSeq (wAsg (wOp (dAdd false) (wOp dMulTA (wTup (wCons (wTup (wCons (wC (.str "flush")) wNil)) wNil)) (wOp dIx (wVar 2) (wC (.int 0)))) (wTup (wCons (wOp dIx (wVar 4) (wNeg (wC (.int 1)))) wNil))) (gN 7))
  (wSeq (wIfS (wTest (wOp (dEq fun b => !b) (wCallP (S__law_told z) 2 (fun ds _ => ds) (wCons (wVar 7) (wCons (wVar 1) wNil))) (wTup (wCons (wC (.str "program")) (wCons (wB dTupOf (wCons (wOp (dAdd false) (wSl false (wVar 2) woNone (woSome (wC (.int 6)))) (wLst false (wCons (wC (.int 0)) wNil))) wNil)) wNil))))) (wRet (wC (.bl false))) wSkip)
  (wSeq (wAsg (wOp (dAdd false) (wOp dMulTA (wTup (wCons (wTup (wCons (wC (.str "flush")) wNil)) wNil)) (wOp dIx (wVar 2) (wC (.int 1)))) (wTup (wCons (wOp dIx (wVar 4) (wNeg (wC (.int 2)))) wNil))) (gN 8))
  (wSeq (wAsg (wCallP (S__law_told z) 2 (fun ds _ => ds) (wCons (wVar 8) (wCons (wVar 1) wNil))) (gN 9))
  (wRet (wAndV (wB dIsi (wCons (wVar 9) (wCons (wC (.ty "list")) wNil))) (wOp (dCmpI fun i j => decide (i ≤ j)) (wOp dIx (wVar 9) (wC (.int 1))) (wC (.int 1)))))))))))))
def w__law_points_right (z : Ad) : WS := (wSeq (wPar 2 3 (wCons (wOp (dAdd false) (wC (.int 1)) (wCallP (F1.S__law_draw z) 2 (fun ds _ => ds) (wCons (wVar 0) (wCons (wC (.int 20)) wNil)))) (wCons (wOp (dAdd false) (wC (.int 100)) (wCallP (F1.S__law_draw z) 2 (fun ds _ => ds) (wCons (wVar 0) (wCons (wC (.int 201)) wNil)))) wNil)))
  (wSeq (wAsg (wB dMin2 (wCons (wVar 3) (wCons (wOp dDiv (wC (.int 2000)) (wVar 2)) wNil))) (gN 3))
  (wSeq (wAsg (wOp dSub (wC (.int 2000)) (wOp (dMul false) (wVar 2) (wVar 3))) (gN 4))
  (wSeq (wAsg (wOp (dAdd false) (wLst false (wCons (wTup (wCons (wC (.str "repeat")) (wCons (wC (.int 100)) (wCons (wOp dMulTA (wTup (wCons (wTup (wCons (wC (.str "flush")) wNil)) wNil)) (wOp dDiv (wVar 4) (wC (.int 100)))) wNil)))) wNil)) (wOp (dMul false) (wLst false (wCons (wTup (wCons (wC (.str "both")) wNil)) wNil)) (wOp dMod (wVar 4) (wC (.int 100))))) (gN 5))
  (wSeq (wAsg (wOp (dAdd false) (wTup (wCons (wTup (wCons (wC (.str "repeat")) (wCons (wVar 3) (wCons (wOp dMulTA (wTup (wCons (wTup (wCons (wC (.str "drop")) wNil)) wNil)) (wVar 2)) wNil)))) wNil)) (wB dTupOf (wCons (wVar 5) wNil))) (gN 6))
  (wSeq (wIfS (wTest (wOp (dEq fun b => !b) (wCallP (S__law_told z) 2 (fun ds _ => ds) (wCons (wVar 6) (wCons (wVar 1) wNil))) (wLst false (wCons (wC (.int 2000)) (wCons (wC (.int 0)) wNil))))) (wRet (wC (.bl false))) wSkip)
  (wSeq (wAsg (wTup (wCons (wC (.str "fork")) (wCons (wTup (wCons (wTup (wCons (wC (.str "write")) (wCons (wC (.int 2000)) wNil))) (wCons (wTup (wCons (wC (.str "line")) wNil)) wNil))) wNil))) (gN 7))
  (wSeq (wIfS (wTest (wOp (dEq fun b => !b) (wCallP (S__law_told z) 2 (fun ds _ => ds) (wCons (wOp (dAdd false) (wVar 6) (wTup (wCons (wTup (wCons (wC (.str "exit")) wNil)) wNil))) (wCons (wVar 1) wNil))) (wTup (wCons (wC (.str "large")) (wCons (wC (.int 2001)) wNil))))) (wRet (wC (.bl false))) wSkip)
  (wSeq (wIfS (wTest (wOp (dEq fun b => !b) (wCallP (S__law_told z) 2 (fun ds _ => ds) (wCons (wOp (dAdd false) (wVar 6) (wTup (wCons (wVar 7) wNil))) (wCons (wVar 1) wNil))) (wTup (wCons (wC (.str "large")) (wCons (wC (.int 2003)) wNil))))) (wRet (wC (.bl false))) wSkip)
  (wSeq (wAsg (wTup (wCons (wC (.str "write")) (wCons (wOp (dAdd false) (wC (.int 1)) (wCallP (F1.S__law_draw z) 2 (fun ds _ => ds) (wCons (wVar 0) (wCons (wC (.int 9)) wNil)))) wNil))) (gN 8))
  (wSeq (wFor (iRng1 (wCons (wC (.int 5)) wNil)) (gN 9) (wAsg (wTup (wCons (wC (.str "repeat")) (wCons (wC (.int 300)) (wCons (wTup (wCons (wVar 8) wNil)) wNil)))) (gN 8)))
  (wRet (wOp (dEq fun b => b) (wCallP (S__law_told z) 2 (fun ds _ => ds) (wCons (wTup (wCons (wVar 8) wNil)) (wCons (wVar 1) wNil))) (wTup (wCons (wC (.str "large")) (wCons (wOp dPow (wC (.int 300)) (wC (.int 5))) wNil))))))))))))))))
def w__law_bytes_right (z : Ad) : WS := (wSeq (wPar 2 3 (wCons (wCallP (F1.S__law_draw z) 2 (fun ds _ => ds) (wCons (wVar 0) (wCons (wC (.int 30)) wNil))) (wCons (wOp (dAdd false) (wC (.int 1)) (wCallP (F1.S__law_draw z) 2 (fun ds _ => ds) (wCons (wVar 0) (wCons (wC (.int 60)) wNil)))) wNil)))
  (wSeq (wAsg (wOp dSub (wC (.int 2000)) (wOp (dMul false) (wVar 2) (wVar 3))) (gN 4))
  (wSeq (wAsg (wCallP (F1.S__law_draw z) 2 (fun ds _ => ds) (wCons (wVar 0) (wCons (wVar 4) wNil))) (gN 5))
  (wSeq (wAsg (wOp (dAdd false) (wOp dMulTA (wTup (wCons (wTup (wCons (wC (.str "write")) (wCons (wVar 5) wNil))) wNil)) (wB dInt (wCons (wOp (dCmpI fun i j => decide (j < i)) (wVar 5) (wC (.int 0))) wNil))) (wTup (wCons (wTup (wCons (wC (.str "repeat")) (wCons (wVar 2) (wCons (wTup (wCons (wTup (wCons (wC (.str "write")) (wCons (wVar 3) wNil))) (wCons (wTup (wCons (wC (.str "quit")) wNil)) wNil))) wNil)))) wNil))) (gN 6))
  (wSeq (wAsg (wTup (wCons (wC (.str "fork")) (wCons (wTup (wCons (wTup (wCons (wC (.str "exit")) wNil)) (wCons (wTup (wCons (wC (.str "write")) (wCons (wOp dSub (wVar 4) (wVar 5)) wNil))) wNil))) wNil))) (gN 7))
  (wSeq (wAsg (wOp (dAdd false) (wB dInt (wCons (wOp (dCmpI fun i j => decide (j < i)) (wVar 5) (wC (.int 0))) wNil)) (wOp (dMul false) (wC (.int 2)) (wVar 2))) (gN 8))
  (wSeq (wIfS (wTest (wOp (dEq fun b => !b) (wCallP (S__law_told z) 2 (fun ds _ => ds) (wCons (wOp (dAdd false) (wVar 6) (wTup (wCons (wVar 7) wNil))) (wCons (wVar 1) wNil))) (wLst false (wCons (wOp (dAdd false) (wVar 8) (wC (.int 3))) (wCons (wC (.int 2000)) wNil))))) (wRet (wC (.bl false))) wSkip)
  (wSeq (wIfS (wTest (wOp (dEq fun b => !b) (wCallP (S__law_told z) 2 (fun ds _ => ds) (wCons (wOp (dAdd false) (wVar 6) (wTup (wCons (wVar 7) (wCons (wTup (wCons (wC (.str "line")) wNil)) wNil)))) (wCons (wVar 1) wNil))) (wLst false (wCons (wOp (dAdd false) (wVar 8) (wC (.int 4))) (wCons (wB dMax2 (wCons (wC (.int 2000)) (wCons (wOp (dAdd false) (wOp (dAdd false) (wOp (dMul false) (wVar 2) (wVar 3)) (wVar 5)) (wC (.int 1))) wNil))) wNil))))) (wRet (wC (.bl false))) wSkip)
  (wSeq (wAsg (wTup (wCons (wC (.str "repeat")) (wCons (wC (.int 2)) (wCons (wTup (wCons (wTup (wCons (wC (.str "fork")) (wCons (wTup (wCons (wTup (wCons (wC (.str "line")) wNil)) (wCons (wTup (wCons (wC (.str "write")) (wCons (wOp dSub (wVar 4) (wVar 5)) wNil))) wNil))) wNil))) (wCons (wTup (wCons (wC (.str "flush")) wNil)) wNil))) wNil)))) (gN 9))
  (wSeq (wIfS (wTest (wOp (dEq fun b => !b) (wCallP (S__law_told z) 2 (fun ds _ => ds) (wCons (wOp (dAdd false) (wVar 6) (wTup (wCons (wVar 9) wNil))) (wCons (wVar 1) wNil))) (wTup (wCons (wC (.str "long")) (wCons (wC (.int 2001)) wNil))))) (wRet (wC (.bl false))) wSkip)
  (wSeq (wAsg (wTup (wCons (wC (.str "repeat")) (wCons (wC (.int 0)) (wCons (wTup (wCons (wTup (wCons (wC (.str "write")) (wCons (wC (.int 2000)) wNil))) (wCons (wTup (wCons (wC (.str "write")) (wCons (wC (.int 2000)) wNil))) wNil))) wNil)))) (gN 10))
  (wRet (wOp (dEq fun b => b) (wCallP (S__law_told z) 2 (fun ds _ => ds) (wCons (wOp (dAdd false) (wVar 6) (wTup (wCons (wVar 10) (wCons (wVar 7) wNil)))) (wCons (wVar 1) wNil))) (wLst false (wCons (wOp (dAdd false) (wVar 8) (wC (.int 3))) (wCons (wC (.int 2000)) wNil))))))))))))))))
def w__law_order_right (z : Ad) : WS := (wSeq (wPar 2 3 (wCons (wTup (wCons (wC (.str "line")) wNil)) (wCons (wOp dIx (wLst false (wCons (wTup (wCons (wC (.str "write")) (wCons (wC (.int 0)) wNil))) (wCons (wC .non) (wCons (wTup (wCons (wC (.str "fork")) (wCons (wLst false wNil) wNil))) wNil)))) (wCallP (F1.S__law_draw z) 2 (fun ds _ => ds) (wCons (wVar 0) (wCons (wC (.int 3)) wNil)))) wNil)))
  (wSeq (wFor (iRng1 (wCons (wC (.int 6)) wNil)) (gN 4) (wAsg (wTup (wCons (wC (.str "fork")) (wCons (wTup (wCons (wVar 2) wNil)) wNil))) (gN 2)))
  (wSeq (wAsg (wCallP (F1.S__law_draw z) 2 (fun ds _ => ds) (wCons (wVar 0) (wCons (wC (.int 5)) wNil))) (gN 5))
  (wSeq (wPar 6 7 (wCons (wOp dMulTA (wTup (wCons (wTup (wCons (wC (.str "flush")) wNil)) wNil)) (wVar 5)) (wCons (wOp dMulTA (wTup (wCons (wTup (wCons (wC (.str "flush")) wNil)) wNil)) (wC (.int 300))) wNil)))
  (wSeq (wAsg (wLst true (wCons (wTup (wCons (wOp (dAdd false) (wVar 6) (wTup (wCons (wVar 2) (wCons (wVar 3) wNil)))) (wCons (wOp (dAdd false) (wTup (wCons (wVar 5) wNil)) (wOp dMulTA (wTup (wCons (wC (.int 0)) wNil)) (wC (.int 6)))) wNil))) (wCons (wTup (wCons (wOp (dAdd false) (wVar 6) (wTup (wCons (wVar 3) (wCons (wVar 2) wNil)))) (wCons (wTup (wCons (wVar 5) wNil)) wNil))) (wCons (wTup (wCons (wOp (dAdd false) (wVar 7) (wTup (wCons (wVar 3) wNil))) (wCons (wTup (wCons (wC (.int 300)) wNil)) wNil))) wNil)))) (gN 8))
  (wSeq (wAsg (wOp (dAdd true) (wVar 8) (wLst false (wCons (wTup (wCons (wOp (dAdd false) (wSl false (wVar 7) (woSome (wC (.int 1))) woNone) (wTup (wCons (wVar 3) (wCons (wVar 3) wNil)))) (wCons (wTup (wCons (wC (.int 299)) wNil)) wNil))) (wCons (wTup (wCons (wOp (dAdd false) (wSl false (wVar 7) (woSome (wC (.int 1))) woNone) (wTup (wCons (wVar 2) (wCons (wVar 3) wNil)))) (wCons (wTup (wCons (wC (.int 299)) (wCons (wC (.int 0)) wNil))) wNil))) (wCons (wTup (wCons (wOp (dAdd false) (wOp (dAdd false) (wVar 6) (wVar 7)) (wTup (wCons (wVar 2) wNil))) (wCons (wTup (wCons (wC (.int 300)) wNil)) wNil))) wNil))))) (gN 8))
  (wSeq (wExpr (wMethT isL dAppend (wVar 8) (wCons (wTup (wCons (wOp (dAdd false) (wVar 6) (wTup (wCons (wTup (wCons (wC (.str "fork")) (wCons (wTup (wCons (wTup (wCons (wC (.str "repeat")) (wCons (wC (.int 2)) (wCons (wTup (wCons (wVar 2) (wCons (wVar 3) wNil))) wNil)))) wNil)) wNil))) (wCons (wVar 3) wNil)))) (wCons (wOp (dAdd false) (wTup (wCons (wVar 5) wNil)) (wOp dMulTA (wTup (wCons (wC (.int 0)) wNil)) (wC (.int 6)))) wNil))) wNil)))
  (wRet (wOp (dEq fun b => b) (wLc false (iSeq (wVar 8)) (gT 2 (gsN [9, 10])) (wTest (wOp (dEq fun b => !b) (wCallP (S__law_told z) 2 (fun ds _ => ds) (wCons (wVar 9) (wCons (wVar 1) wNil))) (wTup (wCons (wC (.str "program")) (wCons (wVar 10) wNil))))) (wC (.int 1)) [9, 10]) (wLst false wNil))))))))))
def w_law (z : Ad) : WS := (wSeq (wAsg (wCallP (F1.S__law_pen z) 1 (fun ds _ => ds) (wCons (wVar 0) wNil)) (gN 1))
  (wSeq (wFor (iTupD (wTup (wCons (wC (.bl true)) (wCons (wC (.bl false)) wNil)))) (gN 2) (wSeq (wIfS (wOr (wNot (wTest (wCallP (S__law_actions_right z) 2 (fun ds _ => ds) (wCons (wVar 1) (wCons (wVar 2) wNil))))) (wNot (wTest (wCallP (S__law_depth_right z) 2 (fun ds _ => ds) (wCons (wVar 1) (wCons (wVar 2) wNil)))))) (wRet (wC (.bl false))) wSkip)
  (wSeq (wIfS (wNot (wTest (wCallP (S__law_order_right z) 2 (fun ds _ => ds) (wCons (wVar 1) (wCons (wVar 2) wNil))))) (wRet (wC (.bl false))) wSkip)
  (wIfS (wOr (wNot (wTest (wCallP (S__law_points_right z) 2 (fun ds _ => ds) (wCons (wVar 1) (wCons (wVar 2) wNil))))) (wNot (wTest (wCallP (S__law_bytes_right z) 2 (fun ds _ => ds) (wCons (wVar 1) (wCons (wVar 2) wNil)))))) (wRet (wC (.bl false))) wSkip))))
  (wRet (wOp (dEq fun b => b) (wCallP (S__law_told z) 2 (fun ds _ => ds) (wCons (wTup (wCons (wTup (wCons (wC (.str "write")) (wCons (wC (.int 2000)) wNil))) (wCons (wTup (wCons (wC (.str "line")) wNil)) wNil))) (wCons (wC (.bl true)) wNil))) (wTup (wCons (wC (.str "long")) (wCons (wC (.int 2001)) wNil)))))))
theorem len__law_told (z : Ad) : ∀ ds h Q X, S__law_told z ds h Q X → ds.length = 2 := fun _ _ _ _ ⟨_, _, _, e, _⟩ => by rw [e]; rfl
theorem mo__law_told (z : Ad) : MoF (S__law_told z) := fun _ _ _ _ _ _ hq hx ⟨a, b, c, e, o1, o2, o3, q⟩ => ⟨a, b, c, e, o1, o2, o3, fun h' s => hq _ _ (q h' s)⟩
theorem len_right (z : Ad) : ∀ ds h Q X, S_right z ds h Q X → ds.length = 2 := fun _ _ _ _ ⟨_, _, _, e, _⟩ => by rw [e]; rfl
theorem mo_right (z : Ad) : MoF (S_right z) := fun _ _ _ _ _ _ hq hx ⟨a, b, c, e, o1, o2, o3, q⟩ => ⟨a, b, c, e, o1, o2, o3, fun h' s => hq _ _ (q h' s)⟩
theorem len__law_actions_right (z : Ad) : ∀ ds h Q X, S_right z ds h Q X → ds.length = 2 := len_right z
theorem mo__law_actions_right (z : Ad) : MoF (S_right z) := mo_right z
theorem len__law_depth_right (z : Ad) : ∀ ds h Q X, S_right z ds h Q X → ds.length = 2 := len_right z
theorem mo__law_depth_right (z : Ad) : MoF (S_right z) := mo_right z
theorem len__law_points_right (z : Ad) : ∀ ds h Q X, S_right z ds h Q X → ds.length = 2 := len_right z
theorem mo__law_points_right (z : Ad) : MoF (S_right z) := mo_right z
theorem len__law_bytes_right (z : Ad) : ∀ ds h Q X, S_right z ds h Q X → ds.length = 2 := len_right z
theorem mo__law_bytes_right (z : Ad) : MoF (S_right z) := mo_right z
theorem len__law_order_right (z : Ad) : ∀ ds h Q X, S_right z ds h Q X → ds.length = 2 := len_right z
theorem mo__law_order_right (z : Ad) : MoF (S_right z) := mo_right z
theorem len_law (z : Ad) : ∀ ds h Q X, S_law z ds h Q X → ds.length = 1 := fun _ _ _ _ ⟨_, e, _⟩ => by rw [e]; rfl
theorem mo_law (z : Ad) : MoF (S_law z) := fun _ _ _ _ _ _ hq _ ⟨a, e, o, q⟩ => ⟨a, e, o, fun h' => hq _ _ (q h')⟩
theorem law_at (z : Ad) : ∀ (js : List Int) (h : AH), js.length ≤ 63 → Tb z h → S_law z [.lk (js.map D.int)] h (fun d _ => d = .bl true) (fun _ _ => False) := fun js h _ t => ⟨js, rfl, t, fun _ => rfl⟩
end K03
namespace K03
open PySem PySem.Spec L2 C8 DL PK F1 PX
/-! ### wrong actions behind sound ones -/
theorem wrg_sound {k : Nat} {p : List Nat} {b : List Ac} {c : Nat} (ok : okB b = true) (hd : dptB b ≤ k) (hp : k + p.length = 6) (hc : c + cntB b ≤ 300) : wrg k p (encs b) c = (none, c + cntB b) := by
  have e := cnt_full k b ok hd
  obtain ⟨h1, h2⟩ := wrg_free k k p (encs b) c (Nat.le_refl _) hp (adp_encs k b ok hd) (by omega)
  rw [wr0_encs _ _ _ ok] at h1
  have h2 := h2 h1
  rw [e] at h2
  exact Prod.ext h1 h2
theorem wrgI_sound {k : Nat} {p : List Nat} (hp : k + 1 + p.length = 6) {ys : List D} : ∀ (b : List Ac) (i c : Nat), okB b = true → dptB b ≤ k + 1 → c + cntB b ≤ 300 →
    wrgI (wrg k) p i (encs b ++ ys) c = wrgI (wrg k) p (i + b.length) ys (c + cntB b)
  | [], i, c, _, _, _ => by rw [encs, cntB]; rfl
  | a :: r, i, c, ok, hd, hc => by
    obtain ⟨oa, or_⟩ := okB_cons ok
    rw [dptB] at hd
    rw [cntB] at hc ⊢
    have da := dpt_eq (a := a)
    have ca := cnt_inn (a := a)
    rw [encs, List.cons_append, wrgI, if_neg (by rw [headD_ok oa]; rintro (h | h | h); cases h; omega; omega), innL_enc oa,
      wrg_sound (okA_inn oa) (by omega) (by simp; omega) (by omega)]
    dsimp only
    rw [wrgI_sound hp r (i + 1) _ or_ (by omega) (by omega), List.length_cons]
    congr 1 <;> omega
theorem wrg_suc {k : Nat} {p : List Nat} {xs : List D} {c : Nat} : wrg (k + 1) p xs c = wrgI (wrg k) p 0 xs c := by rw [wrg]
theorem wrg_stop {k : Nat} {p : List Nat} (hp : k + 1 + p.length = 6) {b : List Ac} {c : Nat} (ok : okB b = true) (hd : dptB b ≤ k + 1) (hc : c + cntB b ≤ 300) {x : D} {ys : List D} (hx : headD x = false ∨ 300 < c + cntB b + 1) :
    (wrg (k + 1) p (encs b ++ x :: ys) c).1 = some (p ++ [b.length]) := by
  rw [wrg_suc, wrgI_sound hp b 0 c ok hd hc, wrgI, if_pos (by rcases hx with h | h; exact .inl h; exact .inr (.inr h)), Nat.zero_add]
theorem wrg_into {k : Nat} {p : List Nat} (hp : k + 1 + p.length = 6) {b : List Ac} {c : Nat} (ok : okB b = true) (hd : dptB b ≤ k + 1) (hc : c + cntB b < 300) {x : D} {ys : List D} (hx : headD x = true) {w : List Nat}
    (e : (wrg k (p ++ [b.length]) (innL x) (c + cntB b + 1)).1 = some w) : (wrg (k + 1) p (encs b ++ x :: ys) c).1 = some w := by
  rw [wrg_suc, wrgI_sound hp b 0 c ok hd (by omega), wrgI, if_neg (by rw [hx]; rintro (h | h | h); cases h; omega; omega), Nat.zero_add]
  cases e2 : wrg k (p ++ [b.length]) (innL x) (c + cntB b + 1) with
  | mk r d =>
    rw [e2] at e
    have e : r = some w := e
    subst e
    rfl
theorem wrg_deepest {p : List Nat} (hp : p.length = 6) {x : D} {ys : List D} {c : Nat} : (wrg 0 p (x :: ys) c).1 = some (p ++ [0]) := by
  rw [wrg, wrgI, if_pos (.inr (.inl (by omega)))]
/-! ### rows of one action -/
def rw_ (w : Str) (n : Nat) : List Ac := List.replicate n (.bare w)
section
variable {w : Str} {n : Nat}
theorem rw_ok (hw : bare w = true) : ∀ n, okB (rw_ w n) = true
  | 0 => by rw [rw_, List.replicate_zero, okB]
  | n + 1 => by
    have := rw_ok hw n
    rw [rw_] at this ⊢
    rw [List.replicate_succ, okB, this, okA, hw]; rfl
theorem rw_dpt : ∀ n, dptB (rw_ w n) ≤ 1
  | 0 => by rw [rw_, List.replicate_zero, dptB]; omega
  | n + 1 => by
    have := rw_dpt n
    rw [rw_] at this ⊢
    rw [List.replicate_succ, dptB, dptA]; omega
theorem rw_cnt : ∀ n, cntB (rw_ w n) = n
  | 0 => by rw [rw_, List.replicate_zero, cntB]
  | n + 1 => by
    have := rw_cnt n
    rw [rw_] at this ⊢
    rw [List.replicate_succ, cntB, cntA, this]; omega
theorem rw_siz : ∀ n, sizB (rw_ w n) = n
  | 0 => by rw [rw_, List.replicate_zero, sizB]
  | n + 1 => by
    have := rw_siz n
    rw [rw_] at this ⊢
    rw [List.replicate_succ, sizB, sizA, this]; omega
theorem rw_byn (hw : w ≠ "line") : ∀ n, bynB (rw_ w n) = 0
  | 0 => by rw [rw_, List.replicate_zero, bynB]
  | n + 1 => by
    have := rw_byn hw n
    rw [rw_] at this ⊢
    rw [List.replicate_succ, bynB, bynA, this, byt, if_neg hw]
theorem rw_rch (hw : w ≠ "line") {r : List Ac} {h m : Nat} : ∀ n, rchL (rw_ w n ++ r) h m = rchL r h m
  | 0 => by rw [rw_, List.replicate_zero]; rfl
  | n + 1 => by
    have := rw_rch hw (r := r) (h := h) (m := m) n
    rw [rw_] at this ⊢
    rw [List.replicate_succ, List.cons_append, rchL, rchA, bynA, byt, if_neg hw, Nat.add_zero, this]
theorem rw_len : (rw_ w n).length = n := by rw [rw_, List.length_replicate]
theorem rw_encs : encs (rw_ w n) = List.replicate n (.tup [.str w]) := by rw [encs_map, rw_, List.map_replicate, enc]
end
theorem sizB_ap : ∀ (b c : List Ac), sizB (b ++ c) = sizB b + sizB c
  | [], c => by rw [List.nil_append, sizB, Nat.zero_add]
  | a :: r, c => by rw [List.cons_append, sizB, sizB, sizB_ap r c, Nat.add_assoc]
theorem bynB_ap : ∀ (b c : List Ac), bynB (b ++ c) = bynB b + bynB c
  | [], c => by rw [List.nil_append, bynB, Nat.zero_add]
  | a :: r, c => by rw [List.cons_append, bynB, bynB, bynB_ap r c, Nat.add_assoc]
/-! ### what is told -/
theorem tld_of {b : List Ac} (ok : okB b = true) (hd : dptB b ≤ 6) (hc : cntB b ≤ 300) : Tld (encs b) (outB b) := .inr ⟨b, rfl, ⟨ok, hd, hc⟩, rfl⟩
theorem out_in {b : List Ac} {s r : Nat} (hs : sizB b = s) (hr : rchB b = r) (h1 : s ≤ 2000) (h2 : r ≤ 2000) : outB b = .lst [.int (s : Nat), .int (r : Nat)] := by
  rw [outB, hs, hr, if_neg (by omega), if_neg (by omega)]
theorem out_large {b : List Ac} {s : Nat} (hs : sizB b = s) (h1 : 2000 < s) : outB b = .tup [.str "large", .int (s : Nat)] := by
  rw [outB, hs, if_pos h1]
theorem out_long {b : List Ac} {r : Nat} (hs : sizB b ≤ 2000) (hr : rchB b = r) (h2 : 2000 < r) : outB b = .tup [.str "long", .int (r : Nat)] := by
  rw [outB, hr, if_neg (by omega), if_pos h2]
theorem tld_bad {xs : List D} {p : List Nat} (e : fw xs = some p) : Tld xs (.tup [.str "program", plcD p]) := .inl ⟨p, e, rfl⟩
theorem fw_stop {b : List Ac} (ok : okB b = true) (hd : dptB b ≤ 6) (hc : cntB b ≤ 300) {x : D} {ys : List D} (hx : headD x = false ∨ cntB b = 300) : fw (encs b ++ x :: ys) = some [b.length] :=
  wrg_stop (k := 5) (p := []) (c := 0) rfl ok hd (by omega) (by rcases hx with h | h; exact .inl h; exact .inr (by omega))
theorem fw_into {b : List Ac} (ok : okB b = true) (hd : dptB b ≤ 6) (hc : cntB b < 300) {x : D} {ys : List D} (hx : headD x = true) {w : List Nat}
    (e : (wrg 5 [b.length] (innL x) (cntB b + 1)).1 = some w) : fw (encs b ++ x :: ys) = some w :=
  wrg_into (k := 5) (p := []) (c := 0) rfl ok hd (by omega) hx (by rw [Nat.zero_add]; exact e)
theorem Inv0.trans {h0 g g' : AH} {p : Addr} {m n : Int} (I : Inv0 h0 p m g) (J : Inv0 g p n g') : Inv0 h0 p n g' :=
  ⟨J.pen, fun b o e c => J.old b o (I.old b o e c) c, I.isp⟩
end K03
namespace PX
open PySem PySem.Spec L2 C8 DL PK F1
mutual
theorem enc_in : ∀ {a c : Ac}, okA a = true → okA c = true → enc a = enc c → a = c
  | .bare w, .bare v, _, _, h => by
    rw [enc, enc] at h
    have := D.tup.inj h
    simp only [List.cons.injEq, D.str.injEq, and_true] at this
    rw [this]
  | .write n, .write m, _, _, h => by
    rw [enc, enc] at h
    have := D.tup.inj h
    simp only [List.cons.injEq, D.int.injEq, and_true, true_and] at this
    rw [Int.ofNat.inj this]
  | .fork b, .fork d, h1, h2, h => by
    rw [okA] at h1 h2
    rw [enc, enc] at h
    have := D.tup.inj h
    simp only [List.cons.injEq, D.tup.injEq, and_true, true_and] at this
    rw [encs_in h1 h2 this]
  | .rep n b, .rep m d, h1, h2, h => by
    rw [okA, Bool.and_eq_true] at h1 h2
    rw [enc, enc] at h
    have := D.tup.inj h
    simp only [List.cons.injEq, D.int.injEq, D.tup.injEq, and_true, true_and] at this
    rw [Int.ofNat.inj this.1, encs_in h1.2 h2.2 this.2]
  | .bare w, .write n, h1, _, h => by rw [enc, enc] at h; have := congrArg List.length (D.tup.inj h); simp at this
  | .bare w, .fork n, h1, _, h => by rw [enc, enc] at h; have := congrArg List.length (D.tup.inj h); simp at this
  | .bare w, .rep _ _, h1, _, h => by rw [enc, enc] at h; have := congrArg List.length (D.tup.inj h); simp at this
  | .write n, .bare w, h1, _, h => by rw [enc, enc] at h; have := congrArg List.length (D.tup.inj h); simp at this
  | .fork n, .bare w, h1, _, h => by rw [enc, enc] at h; have := congrArg List.length (D.tup.inj h); simp at this
  | .rep _ _, .bare w, h1, _, h => by rw [enc, enc] at h; have := congrArg List.length (D.tup.inj h); simp at this
  | .write n, .fork _, h1, _, h => by rw [enc, enc] at h; have := D.tup.inj h; simp at this
  | .fork n, .write _, h1, _, h => by rw [enc, enc] at h; have := D.tup.inj h; simp at this
  | .write n, .rep _ _, h1, _, h => by rw [enc, enc] at h; have := congrArg List.length (D.tup.inj h); simp at this
  | .rep _ _, .write _, h1, _, h => by rw [enc, enc] at h; have := congrArg List.length (D.tup.inj h); simp at this
  | .fork n, .rep _ _, h1, _, h => by rw [enc, enc] at h; have := congrArg List.length (D.tup.inj h); simp at this
  | .rep _ _, .fork _, h1, _, h => by rw [enc, enc] at h; have := congrArg List.length (D.tup.inj h); simp at this
theorem encs_in : ∀ {b d : List Ac}, okB b = true → okB d = true → encs b = encs d → b = d
  | [], [], _, _, _ => rfl
  | a :: r, c :: s, h1, h2, h => by
    obtain ⟨o1, o2⟩ := okB_cons h1
    obtain ⟨o3, o4⟩ := okB_cons h2
    rw [encs, encs] at h
    obtain ⟨e1, e2⟩ := List.cons.inj h
    rw [enc_in o1 o3 e1, encs_in o2 o4 e2]
  | [], _ :: _, _, _, h => by rw [encs, encs] at h; cases h
  | _ :: _, [], _, _, h => by rw [encs, encs] at h; cases h
end
end PX
namespace K03
open PySem PySem.Spec L2 C8 DL PK F1 PX
/-- the errors that are heard -/
def EX (z : Ad) (Z : KD) : KX := fun x h' => ∃ C fs w v, x = .own C fs ∧ Hrd z C fs w v ∧ Z (.tup [.str w, v]) h'
/-- what is heard of a program, before its size is asked -/
def Hd (z : Ad) (lm : Bool) (xs : List D) (d : D) : Prop := (∃ p, fw xs = some p ∧ d = .tup [.str "program", plcD p]) ∨ ∃ b, xs = encs b ∧ Sound b ∧ (2000 < sizB b ∧ d = .tup [.str "large", .int (sizB b : Nat)] ∨ sizB b ≤ 2000 ∧ 2000 < rchB b ∧ d = .tup [.str "long", .int (rchB b : Nat)] ∨ Fit b ∧ d = .lst [prog z lm b])
theorem of_go {z : Ad} {xs : List D} {lm : Bool} {h : AH} (Z : KD) (ht : th (.tup xs) = true) (q : ∀ d h', Hd z lm xs d → Sub h h' → Z d h') :
    PX.S_Program_of z [.ref (clsOf z lm), .tup xs] h (fun d g => Z (.lst [d]) g) (EX z Z) := by
  refine ⟨lm, .tup xs, rfl, ht, fun e => (by cases e), fun ys e => ?_⟩
  cases e
  refine ⟨fun p e h' s => ⟨_, _, _, _, rfl, .prg _, q _ h' (.inl ⟨p, e, rfl⟩) s⟩, fun b e ok f l h' s => ⟨_, _, _, _, rfl, .large _, ?_⟩, fun b e ok f l l2 h' s => ⟨_, _, _, _, rfl, .long _, ?_⟩, fun b e ft => ?_⟩
  · obtain ⟨b', e', so⟩ := fw_none f
    obtain rfl := encs_in ok so.ok (e.symm.trans e')
    exact q _ h' (.inr ⟨b, e, so, .inl ⟨l, rfl⟩⟩) s
  · obtain ⟨b', e', so⟩ := fw_none f
    obtain rfl := encs_in ok so.ok (e.symm.trans e')
    exact q _ h' (.inr ⟨b, e, so, .inr (.inl ⟨l, l2, rfl⟩)⟩) s
  · exact q _ h (.inr ⟨b, e, ⟨ft.ok, ft.dpt, ft.cnt⟩, .inr (.inr ⟨ft, rfl⟩)⟩) (Sub.refl h)
theorem p__law_told (z : Ad) : ∀ ds h Q X, S__law_told z ds h Q X → w__law_told z (endsD Q X) (startD 3 ds) h := by
  rintro ds h Q X ⟨xs, f, d, rfl, ht, tl, tb, q⟩
  show w__law_told z (endsD Q X) [some (.tup xs), some (.bl f), none] h
  unfold w__law_told
  refine seq_go (fun ρ h' => ∃ e, Hd z (!f) xs e ∧ ρ = [some (.tup xs), some (.bl f), some e] ∧ Sub h h') (fun K k => ?_) ?_
  · rw [u_asg]
    refine ⟨tb, ?_⟩
    unfold PX.S__law_heard
    have key := of_go (z := z) (lm := !f) (h := h) (fun e h' => K [some (.tup xs), some (.bl f), some e] h') ht fun e h' he s => k _ _ ⟨e, he, rfl, s⟩
    simp only [u_truth, u_asg, u_gN, u_ret, u_retN, u_skip, u_expr, u_ifs, u_c, u_op, u_neg, u_test, u_and, u_or, u_not, u_if, u_nil, u_cons, u_tup, u_lst, u_callP, u_call, u_b, u_chain, u_andV, u_addI, u_subI, u_mulI, u_divI, u_modI, u_powI, u_cmpI, u_eqI, u_eqS, u_eqB, u_abs, u_intI, u_intB, u_newT, u_newF, u_isN, u_notN, wVar, List.set_cons_zero, List.set_cons_succ, List.getElem?_cons_zero, List.getElem?_cons_succ, List.length_cons, List.length_nil, u_lc, u_for, u_r1, u_r2, u_r3, u_num, u_notV, u_yes, u_w0, u_w1, u_dput, u_get2, u_dget, u_prop, u_fld, u_setF, u_make, u_makeS, u_met, u_calO, u_orT, u_tupIt, u_dc, u_maxDd, u_dnew, u_tupi, ix_p0, ix_p1, wSl, woNone, woSome]
    refine ⟨f, rfl, ?_⟩
    cases f with
    | true =>
      rw [if_pos rfl]
      simp only [wCMet, u_asg, u_gN, u_ret, u_retN, u_skip, u_expr, u_ifs, u_c, u_op, u_neg, u_test, u_and, u_or, u_not, u_if, u_nil, u_cons, u_tup, u_lst, u_callP, u_call, u_b, u_chain, u_andV, u_addI, u_subI, u_mulI, u_divI, u_modI, u_powI, u_cmpI, u_eqI, u_eqS, u_eqB, u_abs, u_intI, u_intB, u_newT, u_newF, u_isN, u_notN, wVar, List.set_cons_zero, List.set_cons_succ, List.getElem?_cons_zero, List.getElem?_cons_succ, List.length_cons, List.length_nil, u_lc, u_for, u_r1, u_r2, u_r3, u_num, u_notV, u_yes, u_w0, u_w1, u_dput, u_get2, u_dget, u_prop, u_fld, u_setF, u_make, u_makeS, u_met, u_calO, u_orT, u_tupIt, u_dc, u_maxDd, u_dnew, u_tupi, ix_p0, ix_p1, wSl, woNone, woSome]
      exact ⟨trivial, key⟩
    | false =>
      rw [if_neg (by decide)]
      simp only [wCMetK, u_asg, u_gN, u_ret, u_retN, u_skip, u_expr, u_ifs, u_c, u_op, u_neg, u_test, u_and, u_or, u_not, u_if, u_nil, u_cons, u_tup, u_lst, u_callP, u_call, u_b, u_chain, u_andV, u_addI, u_subI, u_mulI, u_divI, u_modI, u_powI, u_cmpI, u_eqI, u_eqS, u_eqB, u_abs, u_intI, u_intB, u_newT, u_newF, u_isN, u_notN, wVar, List.set_cons_zero, List.set_cons_succ, List.getElem?_cons_zero, List.getElem?_cons_succ, List.length_cons, List.length_nil, u_lc, u_for, u_r1, u_r2, u_r3, u_num, u_notV, u_yes, u_w0, u_w1, u_dput, u_get2, u_dget, u_prop, u_fld, u_setF, u_make, u_makeS, u_met, u_calO, u_orT, u_tupIt, u_dc, u_maxDd, u_dnew, u_tupi, ix_p0, ix_p1, wSl, woNone, woSome]
      exact ⟨trivial, trivial, key⟩
  · rintro _ g ⟨e, he, rfl, sg⟩
    simp only [u_asg, u_gN, u_ret, u_retN, u_skip, u_expr, u_ifs, u_c, u_op, u_neg, u_test, u_and, u_or, u_not, u_if, u_nil, u_cons, u_tup, u_lst, u_callP, u_call, u_b, u_chain, u_andV, u_addI, u_subI, u_mulI, u_divI, u_modI, u_powI, u_cmpI, u_eqI, u_eqS, u_eqB, u_abs, u_intI, u_intB, u_newT, u_newF, u_isN, u_notN, wVar, List.set_cons_zero, List.set_cons_succ, List.getElem?_cons_zero, List.getElem?_cons_succ, List.length_cons, List.length_nil, u_lc, u_for, u_r1, u_r2, u_r3, u_num, u_notV, u_yes, u_w0, u_w1, u_dput, u_get2, u_dget, u_prop, u_fld, u_setF, u_make, u_makeS, u_met, u_calO, u_orT, u_tupIt, u_dc, u_maxDd, u_dnew, u_tupi, ix_p0, ix_p1, wSl, woNone, woSome]
    have q := q g sg
    have nl : ∀ us, e = .tup us → e = d → dIsi [e, .ty "list"] g (fun x h1 =>
      match x with
      | .bl b => if b = true then wOrE (wProp z.Program (S_Program_size z) (wOp dIx (wVar 2) (wC (D.int 0)))) (wProp z.LineProgram (S_Program_size z) (wOp dIx (wVar 2) (wC (D.int 0)))) [some (D.tup xs), some (D.bl f), some e] h1
          (fun x h1 => wOrE (wProp z.Program (S_Program_reach z) (wOp dIx (wVar 2) (wC (D.int 0)))) (wProp z.LineProgram (S_Program_reach z) (wOp dIx (wVar 2) (wC (D.int 0)))) [some (D.tup xs), some (D.bl f), some e] h1
              (fun x_1 h1 => 0 + 1 + 1 ≤ sizeLine ∧ (endsD Q X).rt (D.lst [x, x_1]) h1) (endsD Q X).ex) (endsD Q X).ex
        else (endsD Q X).rt e h1
      | x => False) := fun us e1 e2 => by
      subst e1
      refine ⟨_, _, _, _, rfl, rfl, rfl, ?_⟩
      rw [← e2] at q
      exact fin_of q
    rcases he with ⟨p, e1, e2⟩ | ⟨b, e1, so, ⟨l1, e2⟩ | ⟨l1, l2, e2⟩ | ⟨ft, e2⟩⟩
    · refine nl _ e2 ?_
      rcases tl with ⟨p', e3, e4⟩ | ⟨b', e3, so', e4⟩
      · rw [e1] at e3; cases e3; rw [e2, e4]
      · rw [e3, fw_sound so'] at e1; cases e1
    all_goals
      have dq : d = outB b := by
        rcases tl with ⟨p', e3, e4⟩ | ⟨b', e3, so', e4⟩
        · rw [e1, fw_sound so] at e3; cases e3
        · obtain rfl := encs_in so.ok so'.ok (e1.symm.trans e3)
          exact e4
    · exact nl _ e2 (by rw [dq, outB, if_pos l1, e2])
    · exact nl _ e2 (by rw [dq, outB, if_neg (by omega), if_pos l2, e2])
    · subst e2
      have s1 := ft.siz
      have s2 := ft.rch
      rw [outB, if_neg (by omega), if_neg (by omega)] at dq
      subst dq
      refine ⟨_, _, _, _, rfl, rfl, rfl, ?_⟩
      have gs : ∀ (S : FSpec) (Q2 : KD) (X2 : KX), S [prog z (!f) b] g Q2 (fun _ _ => False) → wOrE (wProp z.Program S (wOp dIx (wVar 2) (wC (D.int 0)))) (wProp z.LineProgram S (wOp dIx (wVar 2) (wC (D.int 0)))) [some (D.tup xs), some (D.bl f), some (.lst [prog z (!f) b])] g Q2 X2 := fun S Q2 X2 s => by
        cases f with
        | true => exact .inl (by rw [u_prop, u_op, u_var rfl, u_c, u_ixLd at0]; exact ⟨⟨_, rfl⟩, s⟩)
        | false => exact .inr (by rw [u_prop, u_op, u_var rfl, u_c, u_ixLd at0]; exact ⟨⟨_, rfl⟩, s⟩)
      show (if true = true then _ else _)
      rw [if_pos rfl]
      refine gs _ _ _ ⟨_, b, rfl, ft.ok, ft.dpt, ?_⟩
      refine gs _ _ _ ⟨_, b, rfl, ft.ok, ft.dpt, ?_⟩
      exact ⟨by decide, fin_of q⟩
end K03
namespace K03
open PySem PySem.Spec L2 C8 DL PK F1 PX
theorem fl_seat (p : List Nat) : Fl (.tup [.str "program", plcD p]) 2 := fl_2 ((fl_str (by rw [PyData.canLay0]; decide +kernel)).up (by decide)) (fl_tup (k := 0) fun x hx => by
  obtain ⟨i, _, rfl⟩ := List.mem_map.mp hx
  exact fl_int _)
theorem fl_lrg (n : Int) : Fl (.tup [.str "large", .int n]) 1 := fl_2 (fl_str (by rw [PyData.canLay0]; decide +kernel)) (fl_int _)
theorem fl_lng (n : Int) : Fl (.tup [.str "long", .int n]) 1 := fl_2 (fl_str (by rw [PyData.canLay0]; decide +kernel)) (fl_int _)
theorem fl_two (m n : Int) : Fl (.lst [.int m, .int n]) 1 := fl_lst (k := 0) fun x hx => by
  rcases List.mem_cons.mp hx with rfl | hx
  · exact fl_int _
  · obtain rfl : x = .int n := by simpa using hx
    exact fl_int _
theorem same_tup {f : Bool → Bool} {xs : List D} {k : Nat} {h : AH} {Q : KD} (r : Fl (.tup xs) k) (hk : k ≤ 64) (q : Q (.bl (f true)) h) : dEq f (.tup xs) (.tup xs) h Q :=
  ⟨r.da, r.da, r.sh hk, r.sh hk, by show Q (.bl (f (PyData.eqv (pd (.tup xs)) (pd (.tup xs))))) h; rw [r.eqv]; exact q⟩
theorem mulT_go {w : Str} {n : Int} {m : Nat} {h : AH} {Q : KD} (e : n = (m : Int)) (hm : m ≤ 1000) (q : Q (.tup (encs (rw_ w m))) h) : dMulTA (.tup [.tup [.str w]]) (.int n) h Q := by
  subst e
  refine ⟨_, _, rfl, rfl, Nat.zero_lt_one, by omega, by omega, by show 1 ≤ 1000; decide, ?_⟩
  have e : (List.replicate (((m : Nat) : Int).toNat) [D.tup [D.str w]]).flatten = encs (rw_ w m) := by
    rw [rw_encs, Int.toNat_natCast]
    clear q hm
    induction m with
    | zero => rfl
    | succ m ih => rw [List.replicate_succ, List.replicate_succ, List.flatten_cons, ih]; rfl
  rw [e]
  exact q
theorem addT_go {xs ys : List D} {h : AH} {Q : KD} (l : xs.length + ys.length ≤ 16000) (q : Q (.tup (xs ++ ys)) h) : dAdd false (.tup xs) (.tup ys) h Q := ⟨sz_le (Nat.le_trans l (by decide)), q⟩
/-- one action over a body -/
def ov (r : Bool) (b : List Ac) : Ac := if r = true then .rep 0 b else .fork b
def ovW (r : Bool) : List D := if r = true then [.str "repeat", .int 0] else [.str "fork"]
theorem ov_enc (r : Bool) (b : List Ac) : enc (ov r b) = .tup (ovW r ++ [.tup (encs b)]) := by cases r <;> (unfold ov ovW; simp only [if_true, Bool.false_eq_true, if_false]; rw [enc]; rfl)
theorem flush_b : bare "flush" = true := by decide +kernel
theorem ov_facts {r : Bool} {b : List Ac} (ok : okB b = true) : okA (ov r b) = true ∧ dptA (ov r b) = dptB b + 1 ∧ cntA (ov r b) = cntB b + 1 ∧ sizA (ov r b) = (if r = true then 0 else 1 + sizB b) ∧ bynA (ov r b) = 0 ∧ ∀ h m, rchL b 0 0 = 0 → rchA (ov r b) h m = (if r = true then m else max m h) := by
  cases r with
  | true => exact ⟨by show okA (.rep 0 b) = true; rw [okA, ok]; rfl, by show dptA (.rep 0 b) = _; rw [dptA], by show cntA (.rep 0 b) = _; rw [cntA], by show sizA (.rep 0 b) = _; rw [sizA, Nat.zero_mul]; rfl, by show bynA (.rep 0 b) = _; rw [bynA, Nat.zero_mul], fun h m _ => by show rchA (.rep 0 b) h m = _; rw [rchA, if_pos rfl]; rfl⟩
  | false => exact ⟨by show okA (.fork b) = true; rw [okA, ok], by show dptA (.fork b) = _; rw [dptA], by show cntA (.fork b) = _; rw [cntA], by show sizA (.fork b) = _; rw [sizA]; rfl, by show bynA (.fork b) = _; rw [bynA], fun h m e => by show rchA (.fork b) h m = _; rw [rchA, e, Nat.add_zero]; rfl⟩
/-- a row around an action -/
def b1 (r : Bool) (a m k : Nat) : List Ac := rw_ "flush" a ++ (ov r (rw_ "flush" m) :: rw_ "flush" k)
theorem b1_facts {r : Bool} {a m k : Nat} : okB (b1 r a m k) = true ∧ dptB (b1 r a m k) ≤ 2 ∧ cntB (b1 r a m k) = a + (m + 1) + k ∧ sizB (b1 r a m k) = a + (if r = true then 0 else 1 + m) + k ∧ rchB (b1 r a m k) = 0 ∧ (b1 r a m k).length = a + 1 + k := by
  have om := rw_ok flush_b m
  obtain ⟨f1, f2, f3, f4, f5, f6⟩ := ov_facts (r := r) om
  have d1 := rw_dpt (w := "flush") a
  have d2 := rw_dpt (w := "flush") m
  have d3 := rw_dpt (w := "flush") k
  have z : ∀ j, rchL (rw_ "flush" j) 0 0 = 0 := fun j => by
    have := rw_rch (w := "flush") (by decide) (r := []) (h := 0) (m := 0) j
    rw [List.append_nil] at this
    rw [this, rchL]; rfl
  unfold b1
  refine ⟨?_, ?_, ?_, ?_, ?_, ?_⟩
  · rw [okB_app, rw_ok flush_b, okB, f1, rw_ok flush_b]; rfl
  · rw [dptB_app, dptB]; omega
  · rw [cntB_app, cntB, rw_cnt, rw_cnt, f3, rw_cnt]; omega
  · rw [sizB_ap, sizB, rw_siz, rw_siz, f4, rw_siz]; omega
  · rw [rchB, rw_rch (by decide), rchL, f5, f6 _ _ (z m)]
    rw [show (if r = true then 0 else max 0 0) = 0 by cases r <;> rfl]
    exact z k
  · rw [List.length_append, List.length_cons, rw_len, rw_len]; omega
theorem told_go {z : Ad} {b : List Ac} {f : Bool} {g : AH} {Q : KD} {X : KX} (ok : okB b = true) (hd : dptB b ≤ 6) (hc : cntB b ≤ 300) (tb : Tb z g) (q : ∀ h', Sub g h' → Q (outB b) h') : S__law_told z [.tup (encs b), .bl f] g Q X :=
  ⟨_, f, _, rfl, thB_ok ok (by omega), tld_of ok hd hc, tb, q⟩
theorem bad_go {z : Ad} {xs : List D} {p : List Nat} {f : Bool} {g : AH} {Q : KD} {X : KX} (ht : th (.tup xs) = true) (e : fw xs = some p) (tb : Tb z g) (q : ∀ h', Sub g h' → Q (.tup [.str "program", plcD p]) h') : S__law_told z [.tup xs, .bl f] g Q X :=
  ⟨_, f, _, rfl, ht, tld_bad e, tb, q⟩
theorem Tb.sub {z : Ad} {g g' : AH} (t : Tb z g) (s : Sub g g') : Tb z g' := s _ _ t
theorem Tb.inv {z : Ad} {h g : AH} {p : Addr} {n : Int} (t : Tb z h) (I : Inv0 h p n g) (tp : z.t0 ≠ p) : Tb z g := I.old _ _ t tp
theorem Tb.ne {z : Ad} {h : AH} {p : Addr} {n : Int} (t : Tb z h) (I : PenAt n h p) : z.t0 ≠ p := by
  obtain ⟨o, e1, cs, _, _, e2, _⟩ := I
  rintro e
  have t : h z.t0 = _ := t
  rw [e, e1, e2] at t; cases t
theorem fin_r {h g : AH} {p : Addr} {n m : Int} {Q : KD} (q : ∀ h', Inv0 h p m h' → Q (.bl true) h') (I : Inv0 h p n g) (l : n ≤ m) : fin Q (.bl true) g := fin_of (q g (I.mono l))
theorem th_ap {xs : List D} {x : D} (h : th (.tup xs) = true) (l : xs.length < 1000) (hx : th x = true) : th (.tup (xs ++ [x])) = true := by
  rw [PK.th, Bool.and_eq_true, decide_eq_true_iff] at h ⊢
  refine ⟨by rw [List.length_append]; show xs.length + 1 ≤ 1000; omega, ?_⟩
  rw [ths_ap, h.2, ths, ths, hx]; rfl
theorem p__law_actions_right (z : Ad) : ∀ ds h Q X, S__law_actions_right z ds h Q X → w__law_actions_right z (endsD Q X) (startD 9 ds) h := by
  rintro ds h Q X ⟨n, p, f, rfl, tb, I, hn, q⟩
  show w__law_actions_right z (endsD Q X) [some (.ref p), some (.bl f), none, none, none, none, none, none, none] h
  have tp := tb.ne I
  replace I := Inv0.start I
  have sz : ∀ {n : Nat}, n ≤ 1000 → n ≤ sizeLine := fun h => Nat.le_trans h (by decide)
  unfold w__law_actions_right
  ((try dsimp only); rw [u_seq]; (try simp only [u_asg, u_gN, u_ret, u_retN, u_skip, u_expr, u_ifs, u_c, u_op, u_neg, u_test, u_and, u_or, u_not, u_if, u_nil, u_cons, u_tup, u_lst, u_callP, u_call, u_b, u_chain, u_andV, u_addI, u_subI, u_mulI, u_divI, u_modI, u_powI, u_cmpI, u_eqI, u_eqS, u_eqB, u_abs, u_intI, u_intB, u_newT, u_newF, u_isN, u_notN, wVar, List.set_cons_zero, List.set_cons_succ, List.getElem?_cons_zero, List.getElem?_cons_succ, List.length_cons, List.length_nil, u_lc, u_for, u_r1, u_r2, u_r3, u_num, u_notV, u_yes, u_w0, u_w1, u_dput, u_get2, u_dget, u_prop, u_fld, u_setF, u_make, u_makeS, u_met, u_calO, u_orT, u_tupIt, u_dc, u_maxDd, u_dnew, u_tupi, ix_p0, ix_p1, wSl, woNone, woSome]))
  refine ⟨trivial, draw_go I (by omega) (div_ok (by decide) (by decide)) fun v o v0 v1 I _ => ?_⟩
  generalize up h p o = g at I ⊢
  obtain ⟨i, hi⟩ := Int.eq_ofNat_of_zero_le v0
  subst hi
  rw [u_addI, show (1 : Int) + (i : Nat) = ((i + 1 : Nat) : Int) by omega]
  have li : i + 1 ≤ 250 := by omega
  generalize i + 1 = m at li ⊢
  ((try dsimp only); rw [u_seq]; (try simp only [u_asg, u_gN, u_ret, u_retN, u_skip, u_expr, u_ifs, u_c, u_op, u_neg, u_test, u_and, u_or, u_not, u_if, u_nil, u_cons, u_tup, u_lst, u_callP, u_call, u_b, u_chain, u_andV, u_addI, u_subI, u_mulI, u_divI, u_modI, u_powI, u_cmpI, u_eqI, u_eqS, u_eqB, u_abs, u_intI, u_intB, u_newT, u_newF, u_isN, u_notN, wVar, List.set_cons_zero, List.set_cons_succ, List.getElem?_cons_zero, List.getElem?_cons_succ, List.length_cons, List.length_nil, u_lc, u_for, u_r1, u_r2, u_r3, u_num, u_notV, u_yes, u_w0, u_w1, u_dput, u_get2, u_dget, u_prop, u_fld, u_setF, u_make, u_makeS, u_met, u_calO, u_orT, u_tupIt, u_dc, u_maxDd, u_dnew, u_tupi, ix_p0, ix_p1, wSl, woNone, woSome]))
  refine ⟨by decide, by decide, by decide, trivial, draw_go I (by omega) (div_ok (by decide) (by decide)) fun v o v0 v1 I _ => ?_⟩
  generalize up g p o = g at I ⊢
  obtain ⟨r, er⟩ : ∃ r : Bool, atI [D.tup [.str "fork"], .tup [.str "repeat", .int 0]] v = some (.tup (ovW r)) := by
    have : v = 0 ∨ v = 1 := by omega
    rcases this with rfl | rfl
    · exact ⟨false, rfl⟩
    · exact ⟨true, rfl⟩
  rw [u_ixLd er]
  ((try dsimp only); rw [u_seq]; (try simp only [u_asg, u_gN, u_ret, u_retN, u_skip, u_expr, u_ifs, u_c, u_op, u_neg, u_test, u_and, u_or, u_not, u_if, u_nil, u_cons, u_tup, u_lst, u_callP, u_call, u_b, u_chain, u_andV, u_addI, u_subI, u_mulI, u_divI, u_modI, u_powI, u_cmpI, u_eqI, u_eqS, u_eqB, u_abs, u_intI, u_intB, u_newT, u_newF, u_isN, u_notN, wVar, List.set_cons_zero, List.set_cons_succ, List.getElem?_cons_zero, List.getElem?_cons_succ, List.length_cons, List.length_nil, u_lc, u_for, u_r1, u_r2, u_r3, u_num, u_notV, u_yes, u_w0, u_w1, u_dput, u_get2, u_dget, u_prop, u_fld, u_setF, u_make, u_makeS, u_met, u_calO, u_orT, u_tupIt, u_dc, u_maxDd, u_dnew, u_tupi, ix_p0, ix_p1, wSl, woNone, woSome]))
  refine ⟨by decide, by decide, mulT_go (m := m) rfl (by omega) ?_⟩
  refine ⟨by decide, addT_go (by cases r <;> (show _ + 1 ≤ 16000) <;> decide) ?_⟩
  rw [← ov_enc]
  ((try dsimp only); rw [u_seq]; (try simp only [u_asg, u_gN, u_ret, u_retN, u_skip, u_expr, u_ifs, u_c, u_op, u_neg, u_test, u_and, u_or, u_not, u_if, u_nil, u_cons, u_tup, u_lst, u_callP, u_call, u_b, u_chain, u_andV, u_addI, u_subI, u_mulI, u_divI, u_modI, u_powI, u_cmpI, u_eqI, u_eqS, u_eqB, u_abs, u_intI, u_intB, u_newT, u_newF, u_isN, u_notN, wVar, List.set_cons_zero, List.set_cons_succ, List.getElem?_cons_zero, List.getElem?_cons_succ, List.length_cons, List.length_nil, u_lc, u_for, u_r1, u_r2, u_r3, u_num, u_notV, u_yes, u_w0, u_w1, u_dput, u_get2, u_dget, u_prop, u_fld, u_setF, u_make, u_makeS, u_met, u_calO, u_orT, u_tupIt, u_dc, u_maxDd, u_dnew, u_tupi, ix_p0, ix_p1, wSl, woNone, woSome]))
  refine ⟨trivial, draw_go I (by omega) (div_ok (by omega) (by omega)) fun v o v0 v1 I _ => ?_⟩
  generalize up g p o = g at I ⊢
  obtain ⟨a, rfl⟩ := Int.eq_ofNat_of_zero_le v0
  have la : a + m < 300 := by omega
  obtain ⟨k, hk⟩ : ∃ k, a + m + k = 299 := ⟨299 - a - m, by omega⟩
  ((try dsimp only); rw [u_seq]; (try simp only [u_asg, u_gN, u_ret, u_retN, u_skip, u_expr, u_ifs, u_c, u_op, u_neg, u_test, u_and, u_or, u_not, u_if, u_nil, u_cons, u_tup, u_lst, u_callP, u_call, u_b, u_chain, u_andV, u_addI, u_subI, u_mulI, u_divI, u_modI, u_powI, u_cmpI, u_eqI, u_eqS, u_eqB, u_abs, u_intI, u_intB, u_newT, u_newF, u_isN, u_notN, wVar, List.set_cons_zero, List.set_cons_succ, List.getElem?_cons_zero, List.getElem?_cons_succ, List.length_cons, List.length_nil, u_lc, u_for, u_r1, u_r2, u_r3, u_num, u_notV, u_yes, u_w0, u_w1, u_dput, u_get2, u_dget, u_prop, u_fld, u_setF, u_make, u_makeS, u_met, u_calO, u_orT, u_tupIt, u_dc, u_maxDd, u_dnew, u_tupi, ix_p0, ix_p1, wSl, woNone, woSome]))
  refine ⟨by decide, by decide, mulT_go (m := a) rfl (by omega) ?_⟩
  refine ⟨by decide, addT_go (by rw [encs_len, rw_len]; show a + 1 ≤ 16000; omega) ?_⟩
  refine ⟨by decide, by decide, ?_⟩
  refine mulT_go (m := k) (by omega) (by omega) (addT_go (by rw [List.length_append, encs_len, encs_len, rw_len, rw_len]; show a + 1 + k ≤ 16000; omega) ?_)
  obtain ⟨k1, k2, k3, k4, k5, k6⟩ := b1_facts (r := r) (a := a) (m := m) (k := k)
  rw [show encs (rw_ "flush" a) ++ [enc (ov r (rw_ "flush" m))] ++ encs (rw_ "flush" k) = encs (b1 r a m k) by rw [b1, encs_app, encs, List.append_assoc]; rfl]
  have tb1 : Tb z g := tb.inv I tp
  ((try dsimp only); rw [u_seq]; (try simp only [u_asg, u_gN, u_ret, u_retN, u_skip, u_expr, u_ifs, u_c, u_op, u_neg, u_test, u_and, u_or, u_not, u_if, u_nil, u_cons, u_tup, u_lst, u_callP, u_call, u_b, u_chain, u_andV, u_addI, u_subI, u_mulI, u_divI, u_modI, u_powI, u_cmpI, u_eqI, u_eqS, u_eqB, u_abs, u_intI, u_intB, u_newT, u_newF, u_isN, u_notN, wVar, List.set_cons_zero, List.set_cons_succ, List.getElem?_cons_zero, List.getElem?_cons_succ, List.length_cons, List.length_nil, u_lc, u_for, u_r1, u_r2, u_r3, u_num, u_notV, u_yes, u_w0, u_w1, u_dput, u_get2, u_dget, u_prop, u_fld, u_setF, u_make, u_makeS, u_met, u_calO, u_orT, u_tupIt, u_dc, u_maxDd, u_dnew, u_tupi, ix_p0, ix_p1, wSl, woNone, woSome]))
  refine ⟨by decide, ?_⟩
  rw [u_ixTd (show atI (ovW r) 0 = some (.str (if r = true then "repeat" else "fork")) from by cases r <;> rfl)]
  simp only [u_asg, u_gN, u_ret, u_retN, u_skip, u_expr, u_ifs, u_c, u_op, u_neg, u_test, u_and, u_or, u_not, u_if, u_nil, u_cons, u_tup, u_lst, u_callP, u_call, u_b, u_chain, u_andV, u_addI, u_subI, u_mulI, u_divI, u_modI, u_powI, u_cmpI, u_eqI, u_eqS, u_eqB, u_abs, u_intI, u_intB, u_newT, u_newF, u_isN, u_notN, wVar, List.set_cons_zero, List.set_cons_succ, List.getElem?_cons_zero, List.getElem?_cons_succ, List.length_cons, List.length_nil, u_lc, u_for, u_r1, u_r2, u_r3, u_num, u_notV, u_yes, u_w0, u_w1, u_dput, u_get2, u_dget, u_prop, u_fld, u_setF, u_make, u_makeS, u_met, u_calO, u_orT, u_tupIt, u_dc, u_maxDd, u_dnew, u_tupi, ix_p0, ix_p1, wSl, woNone, woSome]
  rw [show (decide ((if r = true then ("repeat" : Str) else "fork") = "repeat")) = r by cases r <;> decide +kernel]
  have hs : sizB (b1 r a m k) = if r = true then 299 - m else 300 := by
    rw [k4]
    cases r with
    | true => show a + 0 + k = 299 - m; omega
    | false => show a + (1 + m) + k = 300; omega
  have hs2 : (if r = true then 299 - m else 300) ≤ 2000 := by split <;> omega
  rw [u_ixLd (show atI [D.int 300, .int (299 - (m : Nat))] (if r = true then (1 : Int) else 0) = some (.int ((if r = true then 299 - m else 300 : Nat) : Int)) from by
    cases r with
    | true => show some (D.int (299 - (m : Nat))) = some (D.int ((299 - m : Nat) : Int)); congr 2; omega
    | false => rfl)]
  generalize (if r = true then 299 - m else 300) = s at hs hs2 ⊢
  ((try dsimp only); rw [u_seq]; (try simp only [u_asg, u_gN, u_ret, u_retN, u_skip, u_expr, u_ifs, u_c, u_op, u_neg, u_test, u_and, u_or, u_not, u_if, u_nil, u_cons, u_tup, u_lst, u_callP, u_call, u_b, u_chain, u_andV, u_addI, u_subI, u_mulI, u_divI, u_modI, u_powI, u_cmpI, u_eqI, u_eqS, u_eqB, u_abs, u_intI, u_intB, u_newT, u_newF, u_isN, u_notN, wVar, List.set_cons_zero, List.set_cons_succ, List.getElem?_cons_zero, List.getElem?_cons_succ, List.length_cons, List.length_nil, u_lc, u_for, u_r1, u_r2, u_r3, u_num, u_notV, u_yes, u_w0, u_w1, u_dput, u_get2, u_dget, u_prop, u_fld, u_setF, u_make, u_makeS, u_met, u_calO, u_orT, u_tupIt, u_dc, u_maxDd, u_dnew, u_tupi, ix_p0, ix_p1, wSl, woNone, woSome]))
  refine ⟨trivial, told_go k1 (by omega) (by omega) tb1 fun g1 sg => ?_⟩
  rw [out_in hs k5 hs2 (by decide)]
  refine ⟨by decide, same_lst (fl_two _ _) (by decide) ?_⟩
  dsimp only
  rw [if_neg (by decide)]
  replace I := Inv0.ext I sg
  replace tb1 := tb1.sub sg
  ((try dsimp only); rw [u_seq]; (try simp only [u_asg, u_gN, u_ret, u_retN, u_skip, u_expr, u_ifs, u_c, u_op, u_neg, u_test, u_and, u_or, u_not, u_if, u_nil, u_cons, u_tup, u_lst, u_callP, u_call, u_b, u_chain, u_andV, u_addI, u_subI, u_mulI, u_divI, u_modI, u_powI, u_cmpI, u_eqI, u_eqS, u_eqB, u_abs, u_intI, u_intB, u_newT, u_newF, u_isN, u_notN, wVar, List.set_cons_zero, List.set_cons_succ, List.getElem?_cons_zero, List.getElem?_cons_succ, List.length_cons, List.length_nil, u_lc, u_for, u_r1, u_r2, u_r3, u_num, u_notV, u_yes, u_w0, u_w1, u_dput, u_get2, u_dget, u_prop, u_fld, u_setF, u_make, u_makeS, u_met, u_calO, u_orT, u_tupIt, u_dc, u_maxDd, u_dnew, u_tupi, ix_p0, ix_p1, wSl, woNone, woSome]))
  refine ⟨by decide, by decide, addT_go (by rw [encs_len, k6]; show a + 1 + k + 1 ≤ 16000; omega) ⟨trivial, bad_go (p := [a + 1 + k]) (th_ap (thB_ok k1 (by omega)) (by rw [encs_len, k6]; omega) (by decide +kernel)) (by rw [fw_stop k1 (by omega) (by omega) (.inr (by omega)), k6]) tb1 fun g2 sg => ?_⟩⟩
  rw [u_lenT, encs_len, k6]
  refine ⟨by decide, by decide, same_tup (fl_seat [a + 1 + k]) (by decide) ?_⟩
  dsimp only
  rw [if_neg (by decide)]
  replace I := Inv0.ext I sg
  replace tb1 := tb1.sub sg
  ((try dsimp only); rw [u_seq]; (try simp only [u_asg, u_gN, u_ret, u_retN, u_skip, u_expr, u_ifs, u_c, u_op, u_neg, u_test, u_and, u_or, u_not, u_if, u_nil, u_cons, u_tup, u_lst, u_callP, u_call, u_b, u_chain, u_andV, u_addI, u_subI, u_mulI, u_divI, u_modI, u_powI, u_cmpI, u_eqI, u_eqS, u_eqB, u_abs, u_intI, u_intB, u_newT, u_newF, u_isN, u_notN, wVar, List.set_cons_zero, List.set_cons_succ, List.getElem?_cons_zero, List.getElem?_cons_succ, List.length_cons, List.length_nil, u_lc, u_for, u_r1, u_r2, u_r3, u_num, u_notV, u_yes, u_w0, u_w1, u_dput, u_get2, u_dget, u_prop, u_fld, u_setF, u_make, u_makeS, u_met, u_calO, u_orT, u_tupIt, u_dc, u_maxDd, u_dnew, u_tupi, ix_p0, ix_p1, wSl, woNone, woSome]))
  have ob : okB [.bare "both"] = true := by decide +kernel
  obtain ⟨o1, o2, o3, _⟩ := ov_facts (r := r) ob
  have d299 := rw_dpt (w := "flush") 299
  refine ⟨by decide, by decide, mulT_go (m := 299) rfl (by omega) ?_⟩
  refine ⟨by decide, by decide, by decide, addT_go (by cases r <;> (show _ + 1 ≤ 16000) <;> decide) ?_⟩
  rw [show D.tup (ovW r ++ [.tup [.tup [.str "both"]]]) = enc (ov r [.bare "both"]) from (ov_enc r [.bare "both"]).symm]
  refine ⟨by decide, addT_go (by rw [encs_len, rw_len]; show 299 + 1 ≤ 16000; decide) ?_⟩
  refine ⟨trivial, bad_go (p := [299, 0]) (th_ap (thB_ok (rw_ok flush_b 299) (by rw [rw_cnt]; decide)) (by rw [encs_len, rw_len]; decide) (thA_ok o1 (by rw [o3]; decide))) ?_ tb1 fun g3 sg => ?_⟩
  · refine fw_into (rw_ok flush_b 299) (by omega) (by rw [rw_cnt]; decide) (headD_ok o1) ?_
    rw [rw_len, rw_cnt, innL_enc o1, show inn (ov r [.bare "both"]) = [.bare "both"] by cases r <;> rfl]
    exact wrg_stop (k := 4) (p := [299]) (b := []) (c := 300) rfl (by rw [okB]) (by rw [dptB]; decide) (by rw [cntB]; decide) (x := enc (.bare "both")) (ys := []) (.inr (by rw [cntB]; decide))
  · replace I := Inv0.ext I sg
    refine ⟨by decide, by decide, same_tup (fl_seat [299, 0]) (by decide) ?_⟩
    exact fin_r q I (by omega)
end K03
namespace K03
open PySem PySem.Spec L2 C8 DL PK F1 PX
/-! ### one action in another -/
def o3 (v : Nat) (b : List Ac) : Ac := if v = 0 then .fork b else if v = 1 then .rep 1 b else .rep 0 b
def o3W (v : Nat) : List D := if v = 0 then [.str "fork"] else if v = 1 then [.str "repeat", .int 1] else [.str "repeat", .int 0]
theorem o3_enc (v : Nat) (b : List Ac) : enc (o3 v b) = .tup (o3W v ++ [.tup (encs b)]) := by
  unfold o3 o3W
  split
  · rw [enc]; rfl
  · split <;> (rw [enc]; rfl)
theorem o3_inn (v : Nat) (b : List Ac) : inn (o3 v b) = b := by
  unfold o3
  split
  · rfl
  · split <;> rfl
theorem o3_len (v : Nat) : (o3W v).length ≤ 2 := by
  unfold o3W
  split
  · decide
  · split <;> decide
def bd3 (s : Nat) (a : Ac) : List Ac := rw_ "flush" s ++ [a]
/-- small and with few bytes -/
structure Lt (a : Ac) (n : Nat) : Prop where
  ok : okA a = true
  dp : dptA a = n + 1
  ct : cntA a ≤ 1 + 3 * n
  sz : sizA a ≤ 1 + 3 * n
  by1 : bynA a ≤ 1
  rc : rchA a 0 0 ≤ 1
theorem rch_bd3 {s n : Nat} {a : Ac} (L : Lt a n) : rchL (bd3 s a) 0 0 ≤ 1 := by
  unfold bd3
  rw [rw_rch (by decide), rchL, rchL]
  have := L.rc
  have := L.by1
  omega
theorem Lt.up {v s n : Nat} {a : Ac} (L : Lt a n) (hs : s ≤ 2) : Lt (o3 v (bd3 s a)) (n + 1) := by
  have ob : okB (bd3 s a) = true := by unfold bd3; rw [okB_app, rw_ok flush_b, okB, L.ok, okB]; rfl
  have db : dptB (bd3 s a) = n + 1 := by
    have := rw_dpt (w := "flush") s
    have := L.dp
    unfold bd3; rw [dptB_app, dptB, dptB]; omega
  have cb : cntB (bd3 s a) ≤ s + (1 + 3 * n) := by
    have := L.ct
    unfold bd3; rw [cntB_app, rw_cnt, cntB, cntB]; omega
  have sb : sizB (bd3 s a) ≤ s + (1 + 3 * n) := by
    have := L.sz
    unfold bd3; rw [sizB_ap, rw_siz, sizB, sizB]; omega
  have bb : bynB (bd3 s a) ≤ 1 := by
    have := L.by1
    unfold bd3; rw [bynB_ap, rw_byn (by decide), bynB, bynB]; omega
  have rb := rch_bd3 (s := s) L
  generalize bd3 s a = b at ob db cb sb bb rb
  unfold o3
  by_cases c0 : v = 0
  · rw [if_pos c0]
    exact ⟨by rw [okA, ob], by rw [dptA, db], by rw [cntA]; omega, by rw [sizA]; omega, by rw [bynA]; omega, by rw [rchA]; omega⟩
  · rw [if_neg c0]
    by_cases c1 : v = 1
    · rw [if_pos c1]
      exact ⟨by rw [okA, ob]; rfl, by rw [dptA, db], by rw [cntA]; omega, by rw [sizA]; omega, by rw [bynA]; omega, by rw [rchA, if_neg (by decide)]; omega⟩
    · rw [if_neg c1]
      exact ⟨by rw [okA, ob]; rfl, by rw [dptA, db], by rw [cntA]; omega, by rw [sizA]; omega, by rw [bynA]; omega, by rw [rchA, if_pos rfl]; omega⟩
/-- the way down -/
inductive Ch : List Nat → List Ac → Ac → Prop
  | nil : Ch [] [] (.bare "line")
  | cons {d ks a v s} : Ch d ks a → s ≤ 2 → Ch (s :: d) (ks ++ [a]) (o3 v (bd3 s a))
theorem Ch.lt {d : List Nat} {ks : List Ac} {a : Ac} (c : Ch d ks a) : Lt a d.length := by
  induction c with
  | nil => exact ⟨by decide +kernel, by rw [dptA]; rfl, by rw [cntA]; decide, by rw [sizA]; decide, by rw [bynA, byt, if_pos rfl]; exact Nat.le_refl _, by rw [rchA]; decide⟩
  | cons _ hs ih => exact ih.up hs
theorem Ch.len {d : List Nat} {ks : List Ac} {a : Ac} (c : Ch d ks a) : ks.length = d.length := by
  induction c with
  | nil => rfl
  | cons _ hs ih => rw [List.length_append, ih]; rfl
def pth : List Nat → List Nat
  | [] => []
  | [_] => [0]
  | x :: y :: r => x :: pth (y :: r)
theorem Ch.pth {d : List Nat} {ks : List Ac} {a : Ac} (c : Ch d ks a) : ∀ (k : Nat) (p : List Nat) (n : Nat), d.length = k + 1 → k + p.length = 6 → n + cntA a ≤ 300 → (wrg k p (innL (enc a)) n).1 = some (p ++ K03.pth d) := by
  induction c with
  | nil => intro k p n h; cases h
  | @cons d ks a v s c hs ih =>
    intro k p n hd hp hn
    have L := c.lt
    have oo : okA (o3 v (bd3 s a)) = true := (L.up hs).ok
    have cc : cntA (o3 v (bd3 s a)) = s + cntA a + 1 := by
      rw [cnt_inn, o3_inn, bd3, cntB_app, rw_cnt, cntB, cntB]; omega
    rw [innL_enc oo, o3_inn]
    cases c with
    | nil =>
      obtain rfl : k = 0 := by simpa using hd.symm
      rw [bd3]
      cases s with
      | zero =>
        rw [rw_, List.replicate_zero, List.nil_append, encs]
        exact wrg_deepest (by omega)
      | succ s =>
        rw [rw_, List.replicate_succ, List.cons_append, encs]
        exact wrg_deepest (by omega)
    | @cons d ks a v s' c hs' =>
      have hd : d.length + 1 + 1 = k + 1 := hd
      obtain ⟨k, rfl⟩ : ∃ k', k = k' + 1 := ⟨k - 1, by omega⟩
      rw [bd3, encs_app, encs, show encs [] = ([] : List D) by rw [encs]]
      have := rw_dpt (w := "flush") s
      refine wrg_into (by omega) (rw_ok flush_b s) (by omega) (by rw [rw_cnt]; omega) (headD_ok L.ok) ?_
      rw [rw_len, ih k _ _ (by show d.length + 1 = k + 1; omega) (by simp; omega) (by rw [rw_cnt]; omega), List.append_assoc]; rfl
theorem cho {d : List Nat} {ks : List Ac} {a : Ac} {s : Nat} (c : Ch (s :: d) ks a) : ∃ ks' a', ks = ks' ++ [a'] ∧ Ch d ks' a' ∧ s ≤ 2 := by
  cases c with
  | cons c hs => exact ⟨_, _, rfl, c, hs⟩
theorem atN {xs : List D} {x y : D} : atI (xs ++ [x, y]) (-1) = some y ∧ atI (xs ++ [x, y]) (-2) = some x := by
  have l : (xs ++ [x, y]).length = xs.length + 2 := by simp
  constructor
  · unfold atI ixN
    rw [l, if_neg (by decide), if_pos (by omega)]
    show (xs ++ [x, y])[_]? = _
    rw [show ((-1 : Int) + ((xs.length + 2 : Nat) : Int)).toNat = xs.length + 1 by omega, List.getElem?_append_right (by omega)]
    simp
  · unfold atI ixN
    rw [l, if_neg (by decide), if_pos (by omega)]
    show (xs ++ [x, y])[_]? = _
    rw [show ((-2 : Int) + ((xs.length + 2 : Nat) : Int)).toNat = xs.length by omega, List.getElem?_append_right (by omega)]
    simp
theorem inv_rm {h0 g : AH} {p c : Addr} {m : Int} (I : Inv0 h0 p m g) (n : h0 c = none) (nc : c ≠ p) : Inv0 h0 p m (rm g c) := by
  refine ⟨?_, fun b o e1 e2 => ?_, I.isp⟩
  · obtain ⟨o, e, r⟩ := I.pen
    exact ⟨o, by show (if p = c then none else g p) = some o; rw [if_neg nc.symm]; exact e, r⟩
  · show (if b = c then none else g b) = some o
    rw [if_neg (by rintro rfl; rw [n] at e1; cases e1)]
    exact I.old b o e1 e2
abbrev nD (s : Nat) : D := .int (s : Nat)
theorem sl_lst {xs ys : List D} {lo hi : Option Int} {h : AH} {Q : KD} (e : cutD xs lo hi = ys) (q : Q (.lst ys) h) : dSl false (.lst xs) lo hi h Q := by
  show newL false _ h Q
  unfold newL
  rw [if_neg (by decide), e]; exact q
theorem sl_tup {m : Bool} {xs ys : List D} {lo hi : Option Int} {h : AH} {Q : KD} (e : cutD xs lo hi = ys) (q : Q (.tup ys) h) : dSl m (.tup xs) lo hi h Q := by
  show Q (.tup _) h
  rw [e]; exact q
theorem addL_go {xs ys : List D} {h : AH} {Q : KD} (l : xs.length + ys.length ≤ 16000) (q : Q (.lst (xs ++ ys)) h) : dAdd false (.lst xs) (.lst ys) h Q := ⟨_, _, rfl, rfl, sz_le (Nat.le_trans l (by decide)), q⟩
theorem p__law_depth_right (z : Ad) : ∀ ds h Q X, S__law_depth_right z ds h Q X → w__law_depth_right z (endsD Q X) (startD 11 ds) h := by
  rintro ds h Q X ⟨n, p, f, rfl, tb, I, hn, q⟩
  show w__law_depth_right z (endsD Q X) [some (.ref p), some (.bl f), none, none, none, none, none, none, none, none, none] h
  have tp := tb.ne I
  replace I := Inv0.start I
  unfold w__law_depth_right
  ((try dsimp only); rw [u_seq]; (try simp only [u_asg, u_gN, u_ret, u_retN, u_skip, u_expr, u_ifs, u_c, u_op, u_neg, u_test, u_and, u_or, u_not, u_if, u_nil, u_cons, u_tup, u_lst, u_callP, u_call, u_b, u_chain, u_andV, u_addI, u_subI, u_mulI, u_divI, u_modI, u_powI, u_cmpI, u_eqI, u_eqS, u_eqB, u_abs, u_intI, u_intB, u_newT, u_newF, u_isN, u_notN, wVar, List.set_cons_zero, List.set_cons_succ, List.getElem?_cons_zero, List.getElem?_cons_succ, List.length_cons, List.length_nil, u_lc, u_for, u_r1, u_r2, u_r3, u_num, u_notV, u_yes, u_w0, u_w1, u_dput, u_get2, u_dget, u_prop, u_fld, u_setF, u_make, u_makeS, u_met, u_calO, u_orT, u_tupIt, u_dc, u_maxDd, u_dnew, u_tupi, ix_p0, ix_p1, wSl, woNone, woSome]))
  refine ⟨by decide, by decide, fun r hr => ?_⟩
  have r0 := I.fresh hr
  refine comp_go (fun i h' => ∃ ss : List Nat, Inv0 h p (n + i) h' ∧ h' r = some (.lst (ss.map nD)) ∧ ss.length = i ∧ ∀ s ∈ ss, s ≤ 2) ⟨[], by simpa using I.new hr, up_same, rfl, fun y hy => by cases hy⟩ (fun _ _ _ => trivial) ?_ ?_
  · rintro i x g K9 hi ⟨ss, I, hr1, ls, hs⟩ k9
    obtain ⟨rfl, li⟩ := intsD_get hi
    have li : i < 7 := li
    try simp only [u_asg, u_gN, u_ret, u_retN, u_skip, u_expr, u_ifs, u_c, u_op, u_neg, u_test, u_and, u_or, u_not, u_if, u_nil, u_cons, u_tup, u_lst, u_callP, u_call, u_b, u_chain, u_andV, u_addI, u_subI, u_mulI, u_divI, u_modI, u_powI, u_cmpI, u_eqI, u_eqS, u_eqB, u_abs, u_intI, u_intB, u_newT, u_newF, u_isN, u_notN, wVar, List.set_cons_zero, List.set_cons_succ, List.getElem?_cons_zero, List.getElem?_cons_succ, List.length_cons, List.length_nil, u_lc, u_for, u_r1, u_r2, u_r3, u_num, u_notV, u_yes, u_w0, u_w1, u_dput, u_get2, u_dget, u_prop, u_fld, u_setF, u_make, u_makeS, u_met, u_calO, u_orT, u_tupIt, u_dc, u_maxDd, u_dnew, u_tupi, ix_p0, ix_p1, wSl, woNone, woSome]
    simp only [if_true]
    refine ⟨trivial, draw_go I (by omega) (div_ok (by decide) (by decide)) fun v o v0 v1 I keep => ?_⟩
    have hr2 : (up g p o) r = _ := (keep r r0.2).trans hr1
    generalize up g p o = g at I hr2 ⊢
    obtain ⟨s, rfl⟩ := Int.eq_ofNat_of_zero_le v0
    refine ⟨ss.map nD, hr2, lt_sz (by rw [List.length_map, ls]; omega), k9 _ ⟨ss ++ [s], ?_, ?_, by rw [List.length_append, ls]; rfl, fun y hy => ?_⟩⟩
    · exact (I.mono (by omega)).put r0.1
    · rw [up_same, List.map_append]; rfl
    · rcases List.mem_append.mp hy with hy | hy
      · exact hs y hy
      · obtain rfl : y = s := by simpa using hy
        omega
  rintro g ⟨ss, I, hr1, ls, hs⟩
  have ls : ss.length = 7 := ls
  replace I := I.mono (n := n + 7) (by have : (intsD 0 (Int.toNat 7)).length = 7 := rfl; omega)
  refine ⟨_, hr1, ?_⟩
  rw [if_neg (by decide)]
  replace I := inv_rm I r0.1 r0.2
  generalize rm g r = g at I ⊢
  ((try dsimp only); rw [u_seq]; (try simp only [u_asg, u_gN, u_ret, u_retN, u_skip, u_expr, u_ifs, u_c, u_op, u_neg, u_test, u_and, u_or, u_not, u_if, u_nil, u_cons, u_tup, u_lst, u_callP, u_call, u_b, u_chain, u_andV, u_addI, u_subI, u_mulI, u_divI, u_modI, u_powI, u_cmpI, u_eqI, u_eqS, u_eqB, u_abs, u_intI, u_intB, u_newT, u_newF, u_isN, u_notN, wVar, List.set_cons_zero, List.set_cons_succ, List.getElem?_cons_zero, List.getElem?_cons_succ, List.length_cons, List.length_nil, u_lc, u_for, u_r1, u_r2, u_r3, u_num, u_notV, u_yes, u_w0, u_w1, u_dput, u_get2, u_dget, u_prop, u_fld, u_setF, u_make, u_makeS, u_met, u_calO, u_orT, u_tupIt, u_dc, u_maxDd, u_dnew, u_tupi, ix_p0, ix_p1, wSl, woNone, woSome]))
  refine ⟨by decide, ?_⟩
  ((try dsimp only); rw [u_seq]; (try simp only [u_asg, u_gN, u_ret, u_retN, u_skip, u_expr, u_ifs, u_c, u_op, u_neg, u_test, u_and, u_or, u_not, u_if, u_nil, u_cons, u_tup, u_lst, u_callP, u_call, u_b, u_chain, u_andV, u_addI, u_subI, u_mulI, u_divI, u_modI, u_powI, u_cmpI, u_eqI, u_eqS, u_eqB, u_abs, u_intI, u_intB, u_newT, u_newF, u_isN, u_notN, wVar, List.set_cons_zero, List.set_cons_succ, List.getElem?_cons_zero, List.getElem?_cons_succ, List.length_cons, List.length_nil, u_lc, u_for, u_r1, u_r2, u_r3, u_num, u_notV, u_yes, u_w0, u_w1, u_dput, u_get2, u_dget, u_prop, u_fld, u_setF, u_make, u_makeS, u_met, u_calO, u_orT, u_tupIt, u_dc, u_maxDd, u_dnew, u_tupi, ix_p0, ix_p1, wSl, woNone, woSome]))
  refine ⟨by decide, fun r hr => ?_⟩
  have r0 := I.fresh hr
  replace I := I.new (o := .lst []) hr
  have hr1 : (up g r (.lst [])) r = some (.lst ([].map enc)) := up_same
  generalize up g r (.lst []) = g at I hr1 ⊢
  refine seq_go (fun ρ h' => ∃ ks a a5 a6, ρ = [some (.ref p), some (.bl f), some (.lst (ss.map nD)), some (enc a), some (.ref r), a5, a6, none, none, none, none] ∧ Inv0 h p (n + 14) h' ∧ h' r = some (.lst (ks.map enc)) ∧ Ch ss ks a) (fun K k => ?_) ?_
  · simp only [wRev, u_asg, u_gN, u_ret, u_retN, u_skip, u_expr, u_ifs, u_c, u_op, u_neg, u_test, u_and, u_or, u_not, u_if, u_nil, u_cons, u_tup, u_lst, u_callP, u_call, u_b, u_chain, u_andV, u_addI, u_subI, u_mulI, u_divI, u_modI, u_powI, u_cmpI, u_eqI, u_eqS, u_eqB, u_abs, u_intI, u_intB, u_newT, u_newF, u_isN, u_notN, wVar, List.set_cons_zero, List.set_cons_succ, List.getElem?_cons_zero, List.getElem?_cons_succ, List.length_cons, List.length_nil, u_lc, u_for, u_r1, u_r2, u_r3, u_num, u_notV, u_yes, u_w0, u_w1, u_dput, u_get2, u_dget, u_prop, u_fld, u_setF, u_make, u_makeS, u_met, u_calO, u_orT, u_tupIt, u_dc, u_maxDd, u_dnew, u_tupi, ix_p0, ix_p1, wSl, woNone, woSome]
    refine ⟨ss.map nD, rfl, ?_⟩
    refine loop_rest (fun l ρ h' => ∃ ks a a5 a6 dn rs, l = rs.map nD ∧ dn.reverse ++ rs = ss.reverse ∧ ρ = [some (.ref p), some (.bl f), some (.lst (ss.map nD)), some (enc a), some (.ref r), a5, a6, none, none, none, none] ∧ Inv0 h p (n + 7 + dn.length) h' ∧ h' r = some (.lst (ks.map enc)) ∧ Ch dn ks a) (fun _ _ _ _ => trivial) ?_ ?_ _ _ _
      ⟨[], .bare "line", none, none, [], ss.reverse, by rw [List.map_reverse], rfl, by rw [enc], by simpa using I, hr1, .nil⟩
    · rintro x l _ g K9 ⟨ks, a, a5, a6, dn, rs, hl, e, rfl, I, hr1, c⟩ k9
      cases rs with
      | nil => cases hl
      | cons s rs =>
        rw [List.map_cons] at hl
        obtain ⟨rfl, rfl⟩ := List.cons.inj hl
        have ld : dn.length ≤ 6 := by
          have := congrArg List.length e
          rw [List.length_append, List.length_reverse, List.length_reverse, List.length_cons] at this
          omega
        have s2 : s ≤ 2 := hs s (by
          have : s ∈ ss.reverse := by rw [← e]; simp
          simpa using this)
        rw [u_gN]
        dsimp only [List.set_cons_zero, List.set_cons_succ]
        rw [u_seq, u_expr]
        simp only [wMethT, u_asg, u_gN, u_ret, u_retN, u_skip, u_expr, u_ifs, u_c, u_op, u_neg, u_test, u_and, u_or, u_not, u_if, u_nil, u_cons, u_tup, u_lst, u_callP, u_call, u_b, u_chain, u_andV, u_addI, u_subI, u_mulI, u_divI, u_modI, u_powI, u_cmpI, u_eqI, u_eqS, u_eqB, u_abs, u_intI, u_intB, u_newT, u_newF, u_isN, u_notN, wVar, List.set_cons_zero, List.set_cons_succ, List.getElem?_cons_zero, List.getElem?_cons_succ, List.length_cons, List.length_nil, u_lc, u_for, u_r1, u_r2, u_r3, u_num, u_notV, u_yes, u_w0, u_w1]
        refine ⟨⟨_, lst_ref hr1⟩, r, _, _, rfl, rfl, hr1, lt_sz (by rw [List.length_map, c.len]; omega), ?_⟩
        replace I := I.put (o := .lst (ks.map enc ++ [enc a])) r0.1
        have hr1 : (up g r (.lst (ks.map enc ++ [enc a]))) r = some (.lst ((ks ++ [a]).map enc)) := by rw [up_same, List.map_append]; rfl
        generalize up g r (.lst (ks.map enc ++ [enc a])) = g at I hr1 ⊢
        ((try dsimp only); rw [u_seq]; (try simp only [u_asg, u_gN, u_ret, u_retN, u_skip, u_expr, u_ifs, u_c, u_op, u_neg, u_test, u_and, u_or, u_not, u_if, u_nil, u_cons, u_tup, u_lst, u_callP, u_call, u_b, u_chain, u_andV, u_addI, u_subI, u_mulI, u_divI, u_modI, u_powI, u_cmpI, u_eqI, u_eqS, u_eqB, u_abs, u_intI, u_intB, u_newT, u_newF, u_isN, u_notN, wVar, List.set_cons_zero, List.set_cons_succ, List.getElem?_cons_zero, List.getElem?_cons_succ, List.length_cons, List.length_nil, u_lc, u_for, u_r1, u_r2, u_r3, u_num, u_notV, u_yes, u_w0, u_w1, u_dput, u_get2, u_dget, u_prop, u_fld, u_setF, u_make, u_makeS, u_met, u_calO, u_orT, u_tupIt, u_dc, u_maxDd, u_dnew, u_tupi, ix_p0, ix_p1, wSl, woNone, woSome]))
        refine ⟨by decide, by decide, by decide, by decide, trivial, draw_go I (by omega) (div_ok (by decide) (by decide)) fun v o v0 v1 I keep => ?_⟩
        have hr2 : (up g p o) r = _ := (keep r r0.2).trans hr1
        generalize up g p o = g at I hr2 ⊢
        obtain ⟨w, rfl⟩ := Int.eq_ofNat_of_zero_le v0
        rw [u_ixLd (show atI [D.tup [.str "fork"], .tup [.str "repeat", .int 1], .tup [.str "repeat", .int 0]] (w : Nat) = some (.tup (o3W w)) from by
          have : w = 0 ∨ w = 1 ∨ w = 2 := by omega
          rcases this with rfl | rfl | rfl <;> rfl)]
        try simp only [u_asg, u_gN, u_ret, u_retN, u_skip, u_expr, u_ifs, u_c, u_op, u_neg, u_test, u_and, u_or, u_not, u_if, u_nil, u_cons, u_tup, u_lst, u_callP, u_call, u_b, u_chain, u_andV, u_addI, u_subI, u_mulI, u_divI, u_modI, u_powI, u_cmpI, u_eqI, u_eqS, u_eqB, u_abs, u_intI, u_intB, u_newT, u_newF, u_isN, u_notN, wVar, List.set_cons_zero, List.set_cons_succ, List.getElem?_cons_zero, List.getElem?_cons_succ, List.length_cons, List.length_nil, u_lc, u_for, u_r1, u_r2, u_r3, u_num, u_notV, u_yes, u_w0, u_w1, u_dput, u_get2, u_dget, u_prop, u_fld, u_setF, u_make, u_makeS, u_met, u_calO, u_orT, u_tupIt, u_dc, u_maxDd, u_dnew, u_tupi, ix_p0, ix_p1, wSl, woNone, woSome]
        refine ⟨by decide, by decide, mulT_go (m := s) rfl (by omega) ?_⟩
        try simp only [u_asg, u_gN, u_ret, u_retN, u_skip, u_expr, u_ifs, u_c, u_op, u_neg, u_test, u_and, u_or, u_not, u_if, u_nil, u_cons, u_tup, u_lst, u_callP, u_call, u_b, u_chain, u_andV, u_addI, u_subI, u_mulI, u_divI, u_modI, u_powI, u_cmpI, u_eqI, u_eqS, u_eqB, u_abs, u_intI, u_intB, u_newT, u_newF, u_isN, u_notN, wVar, List.set_cons_zero, List.set_cons_succ, List.getElem?_cons_zero, List.getElem?_cons_succ, List.length_cons, List.length_nil, u_lc, u_for, u_r1, u_r2, u_r3, u_num, u_notV, u_yes, u_w0, u_w1, u_dput, u_get2, u_dget, u_prop, u_fld, u_setF, u_make, u_makeS, u_met, u_calO, u_orT, u_tupIt, u_dc, u_maxDd, u_dnew, u_tupi, ix_p0, ix_p1, wSl, woNone, woSome]
        refine ⟨by decide, addT_go (by rw [encs_len, rw_len]; show s + 1 ≤ 16000; omega) ?_⟩
        try simp only [u_asg, u_gN, u_ret, u_retN, u_skip, u_expr, u_ifs, u_c, u_op, u_neg, u_test, u_and, u_or, u_not, u_if, u_nil, u_cons, u_tup, u_lst, u_callP, u_call, u_b, u_chain, u_andV, u_addI, u_subI, u_mulI, u_divI, u_modI, u_powI, u_cmpI, u_eqI, u_eqS, u_eqB, u_abs, u_intI, u_intB, u_newT, u_newF, u_isN, u_notN, wVar, List.set_cons_zero, List.set_cons_succ, List.getElem?_cons_zero, List.getElem?_cons_succ, List.length_cons, List.length_nil, u_lc, u_for, u_r1, u_r2, u_r3, u_num, u_notV, u_yes, u_w0, u_w1, u_dput, u_get2, u_dget, u_prop, u_fld, u_setF, u_make, u_makeS, u_met, u_calO, u_orT, u_tupIt, u_dc, u_maxDd, u_dnew, u_tupi, ix_p0, ix_p1, wSl, woNone, woSome]
        refine ⟨by decide, addT_go (by have := o3_len w; show _ + 1 ≤ 16000; omega) ?_⟩
        have e9 : D.tup (o3W w ++ [.tup (encs (rw_ "flush" s) ++ [enc a])]) = enc (o3 w (bd3 s a)) := by
          rw [o3_enc, bd3, encs_app, encs, show encs [] = ([] : List D) by rw [encs]]
        rw [e9]
        exact k9 _ _ ⟨_, _, _, _, s :: dn, rs, rfl, by rw [List.reverse_cons, List.append_assoc]; exact e, rfl, I.mono (by rw [List.length_cons]; omega), hr2, .cons c s2⟩
    · rintro _ g ⟨ks, a, a5, a6, dn, rs, hl, e, rfl, I, hr1, c⟩
      obtain rfl : rs = [] := by cases rs with
        | nil => rfl
        | cons _ _ => cases hl
      rw [List.append_nil] at e
      have e := List.reverse_inj.mp e
      rw [e] at c I
      exact k _ _ ⟨_, _, _, _, rfl, I.mono (by omega), hr1, c⟩
  rintro _ g ⟨ks, a, a5, a6, rfl, I, hr1, c⟩
  match ss, ls, hs, c with
  | [s0, s1, s2, s3, s4, s5, s6], _, hs, c =>
    obtain ⟨k1, b6, rfl, c6, h0⟩ := cho c
    obtain ⟨k2, b5, rfl, c5, h1⟩ := cho c6
    have at1' := (atN (xs := k2.map enc) (x := enc b5) (y := enc b6)).1
    have at2' := (atN (xs := k2.map enc) (x := enc b5) (y := enc b6)).2
    have hr2 : g r = some (.lst (k2.map enc ++ [enc b5, enc b6])) := by rw [hr1, List.map_append, List.map_append, List.append_assoc]; rfl
    have L6 := c6.lt
    have L5 := c5.lt
    have n6 : cntA b6 ≤ 19 := L6.ct
    have n5 : cntA b5 ≤ 16 := L5.ct
    have tb1 : Tb z g := tb.inv I tp
    ((try dsimp only); rw [u_seq]; (try simp only [u_asg, u_gN, u_ret, u_retN, u_skip, u_expr, u_ifs, u_c, u_op, u_neg, u_test, u_and, u_or, u_not, u_if, u_nil, u_cons, u_tup, u_lst, u_callP, u_call, u_b, u_chain, u_andV, u_addI, u_subI, u_mulI, u_divI, u_modI, u_powI, u_cmpI, u_eqI, u_eqS, u_eqB, u_abs, u_intI, u_intB, u_newT, u_newF, u_isN, u_notN, wVar, List.set_cons_zero, List.set_cons_succ, List.getElem?_cons_zero, List.getElem?_cons_succ, List.length_cons, List.length_nil, u_lc, u_for, u_r1, u_r2, u_r3, u_num, u_notV, u_yes, u_w0, u_w1, u_dput, u_get2, u_dget, u_prop, u_fld, u_setF, u_make, u_makeS, u_met, u_calO, u_orT, u_tupIt, u_dc, u_maxDd, u_dnew, u_tupi, ix_p0, ix_p1, wSl, woNone, woSome]))
    rw [u_ixLd (show atI (List.map nD [s0, s1, s2, s3, s4, s5, s6]) 0 = some (nD s0) from rfl)]
    refine ⟨by decide, by decide, mulT_go (m := s0) rfl (by omega) ?_⟩
    try simp only [u_asg, u_gN, u_ret, u_retN, u_skip, u_expr, u_ifs, u_c, u_op, u_neg, u_test, u_and, u_or, u_not, u_if, u_nil, u_cons, u_tup, u_lst, u_callP, u_call, u_b, u_chain, u_andV, u_addI, u_subI, u_mulI, u_divI, u_modI, u_powI, u_cmpI, u_eqI, u_eqS, u_eqB, u_abs, u_intI, u_intB, u_newT, u_newF, u_isN, u_notN, wVar, List.set_cons_zero, List.set_cons_succ, List.getElem?_cons_zero, List.getElem?_cons_succ, List.length_cons, List.length_nil, u_lc, u_for, u_r1, u_r2, u_r3, u_num, u_notV, u_yes, u_w0, u_w1, u_dput, u_get2, u_dget, u_prop, u_fld, u_setF, u_make, u_makeS, u_met, u_calO, u_orT, u_tupIt, u_dc, u_maxDd, u_dnew, u_tupi, ix_p0, ix_p1, wSl, woNone, woSome]
    refine ⟨_, _, seq_ref hr2, at1', ?_⟩
    try simp only [u_asg, u_gN, u_ret, u_retN, u_skip, u_expr, u_ifs, u_c, u_op, u_neg, u_test, u_and, u_or, u_not, u_if, u_nil, u_cons, u_tup, u_lst, u_callP, u_call, u_b, u_chain, u_andV, u_addI, u_subI, u_mulI, u_divI, u_modI, u_powI, u_cmpI, u_eqI, u_eqS, u_eqB, u_abs, u_intI, u_intB, u_newT, u_newF, u_isN, u_notN, wVar, List.set_cons_zero, List.set_cons_succ, List.getElem?_cons_zero, List.getElem?_cons_succ, List.length_cons, List.length_nil, u_lc, u_for, u_r1, u_r2, u_r3, u_num, u_notV, u_yes, u_w0, u_w1, u_dput, u_get2, u_dget, u_prop, u_fld, u_setF, u_make, u_makeS, u_met, u_calO, u_orT, u_tupIt, u_dc, u_maxDd, u_dnew, u_tupi, ix_p0, ix_p1, wSl, woNone, woSome]
    refine ⟨by decide, addT_go (by rw [encs_len, rw_len]; show s0 + 1 ≤ 16000; omega) ?_⟩
    have o0 : okB (bd3 s0 b6) = true := by rw [bd3, okB_app, rw_ok flush_b, okB, L6.ok, okB]; rfl
    have e0 : encs (rw_ "flush" s0) ++ [enc b6] = encs (bd3 s0 b6) := by rw [bd3, encs_app, encs, show encs [] = ([] : List D) by rw [encs]]
    have w0 : fw (encs (bd3 s0 b6)) = some [s0, s1, s2, s3, s4, s5, 0] := by
      rw [← e0]
      have := rw_dpt (w := "flush") s0
      refine fw_into (rw_ok flush_b s0) (by omega) (by rw [rw_cnt]; omega) (headD_ok L6.ok) ?_
      rw [rw_len, c6.pth 5 [s0] _ rfl rfl (by rw [rw_cnt]; omega)]; rfl
    have t0 : cntB (bd3 s0 b6) ≤ 21 := by rw [bd3, cntB_app, rw_cnt, cntB, cntB]; omega
    rw [e0]
    ((try dsimp only); rw [u_seq]; (try simp only [u_asg, u_gN, u_ret, u_retN, u_skip, u_expr, u_ifs, u_c, u_op, u_neg, u_test, u_and, u_or, u_not, u_if, u_nil, u_cons, u_tup, u_lst, u_callP, u_call, u_b, u_chain, u_andV, u_addI, u_subI, u_mulI, u_divI, u_modI, u_powI, u_cmpI, u_eqI, u_eqS, u_eqB, u_abs, u_intI, u_intB, u_newT, u_newF, u_isN, u_notN, wVar, List.set_cons_zero, List.set_cons_succ, List.getElem?_cons_zero, List.getElem?_cons_succ, List.length_cons, List.length_nil, u_lc, u_for, u_r1, u_r2, u_r3, u_num, u_notV, u_yes, u_w0, u_w1, u_dput, u_get2, u_dget, u_prop, u_fld, u_setF, u_make, u_makeS, u_met, u_calO, u_orT, u_tupIt, u_dc, u_maxDd, u_dnew, u_tupi, ix_p0, ix_p1, wSl, woNone, woSome]))
    refine ⟨trivial, bad_go (thB_ok o0 (by omega)) w0 tb1 fun g1 sg => ?_⟩
    replace I := Inv0.ext I sg
    have hr2 := sg _ _ hr2
    have tb1 := tb1.sub sg
    refine sl_lst (ys := [nD s0, nD s1, nD s2, nD s3, nD s4, nD s5]) rfl ⟨by decide, addL_go (by show 6 + 1 ≤ 16000; decide) ⟨_, _, rfl, rfl, by decide, ?_⟩⟩
    show dEq _ (D.tup [.str "program", plcD [s0, s1, s2, s3, s4, s5, 0]]) (D.tup [.str "program", plcD [s0, s1, s2, s3, s4, s5, 0]]) g1 _
    refine same_tup (fl_seat _) (by decide) ?_
    dsimp only
    rw [if_neg (by decide)]
    ((try dsimp only); rw [u_seq]; (try simp only [u_asg, u_gN, u_ret, u_retN, u_skip, u_expr, u_ifs, u_c, u_op, u_neg, u_test, u_and, u_or, u_not, u_if, u_nil, u_cons, u_tup, u_lst, u_callP, u_call, u_b, u_chain, u_andV, u_addI, u_subI, u_mulI, u_divI, u_modI, u_powI, u_cmpI, u_eqI, u_eqS, u_eqB, u_abs, u_intI, u_intB, u_newT, u_newF, u_isN, u_notN, wVar, List.set_cons_zero, List.set_cons_succ, List.getElem?_cons_zero, List.getElem?_cons_succ, List.length_cons, List.length_nil, u_lc, u_for, u_r1, u_r2, u_r3, u_num, u_notV, u_yes, u_w0, u_w1, u_dput, u_get2, u_dget, u_prop, u_fld, u_setF, u_make, u_makeS, u_met, u_calO, u_orT, u_tupIt, u_dc, u_maxDd, u_dnew, u_tupi, ix_p0, ix_p1, wSl, woNone, woSome]))
    rw [u_ixLd (show atI (List.map nD [s0, s1, s2, s3, s4, s5, s6]) 1 = some (nD s1) from rfl)]
    refine ⟨by decide, by decide, mulT_go (m := s1) rfl (by omega) ?_⟩
    try simp only [u_asg, u_gN, u_ret, u_retN, u_skip, u_expr, u_ifs, u_c, u_op, u_neg, u_test, u_and, u_or, u_not, u_if, u_nil, u_cons, u_tup, u_lst, u_callP, u_call, u_b, u_chain, u_andV, u_addI, u_subI, u_mulI, u_divI, u_modI, u_powI, u_cmpI, u_eqI, u_eqS, u_eqB, u_abs, u_intI, u_intB, u_newT, u_newF, u_isN, u_notN, wVar, List.set_cons_zero, List.set_cons_succ, List.getElem?_cons_zero, List.getElem?_cons_succ, List.length_cons, List.length_nil, u_lc, u_for, u_r1, u_r2, u_r3, u_num, u_notV, u_yes, u_w0, u_w1, u_dput, u_get2, u_dget, u_prop, u_fld, u_setF, u_make, u_makeS, u_met, u_calO, u_orT, u_tupIt, u_dc, u_maxDd, u_dnew, u_tupi, ix_p0, ix_p1, wSl, woNone, woSome]
    refine ⟨_, _, seq_ref hr2, at2', ?_⟩
    try simp only [u_asg, u_gN, u_ret, u_retN, u_skip, u_expr, u_ifs, u_c, u_op, u_neg, u_test, u_and, u_or, u_not, u_if, u_nil, u_cons, u_tup, u_lst, u_callP, u_call, u_b, u_chain, u_andV, u_addI, u_subI, u_mulI, u_divI, u_modI, u_powI, u_cmpI, u_eqI, u_eqS, u_eqB, u_abs, u_intI, u_intB, u_newT, u_newF, u_isN, u_notN, wVar, List.set_cons_zero, List.set_cons_succ, List.getElem?_cons_zero, List.getElem?_cons_succ, List.length_cons, List.length_nil, u_lc, u_for, u_r1, u_r2, u_r3, u_num, u_notV, u_yes, u_w0, u_w1, u_dput, u_get2, u_dget, u_prop, u_fld, u_setF, u_make, u_makeS, u_met, u_calO, u_orT, u_tupIt, u_dc, u_maxDd, u_dnew, u_tupi, ix_p0, ix_p1, wSl, woNone, woSome]
    refine ⟨by decide, addT_go (by rw [encs_len, rw_len]; show s1 + 1 ≤ 16000; omega) ?_⟩
    have d5 : dptA b5 = 6 := L5.dp
    have k5 : sizA b5 ≤ 16 := L5.sz
    have o1 : okB (bd3 s1 b5) = true := by rw [bd3, okB_app, rw_ok flush_b, okB, L5.ok, okB]; rfl
    have e1 : encs (rw_ "flush" s1) ++ [enc b5] = encs (bd3 s1 b5) := by rw [bd3, encs_app, encs, show encs [] = ([] : List D) by rw [encs]]
    have t1 : cntB (bd3 s1 b5) ≤ 18 := by rw [bd3, cntB_app, rw_cnt, cntB, cntB]; omega
    have u1 : dptB (bd3 s1 b5) ≤ 6 := by
      have := rw_dpt (w := "flush") s1
      rw [bd3, dptB_app, dptB, dptB]; omega
    have v1 : sizB (bd3 s1 b5) ≤ 18 := by rw [bd3, sizB_ap, rw_siz, sizB, sizB]; omega
    have r1 : rchB (bd3 s1 b5) ≤ 1 := rch_bd3 L5
    rw [e1]
    ((try dsimp only); rw [u_seq]; (try simp only [u_asg, u_gN, u_ret, u_retN, u_skip, u_expr, u_ifs, u_c, u_op, u_neg, u_test, u_and, u_or, u_not, u_if, u_nil, u_cons, u_tup, u_lst, u_callP, u_call, u_b, u_chain, u_andV, u_addI, u_subI, u_mulI, u_divI, u_modI, u_powI, u_cmpI, u_eqI, u_eqS, u_eqB, u_abs, u_intI, u_intB, u_newT, u_newF, u_isN, u_notN, wVar, List.set_cons_zero, List.set_cons_succ, List.getElem?_cons_zero, List.getElem?_cons_succ, List.length_cons, List.length_nil, u_lc, u_for, u_r1, u_r2, u_r3, u_num, u_notV, u_yes, u_w0, u_w1, u_dput, u_get2, u_dget, u_prop, u_fld, u_setF, u_make, u_makeS, u_met, u_calO, u_orT, u_tupIt, u_dc, u_maxDd, u_dnew, u_tupi, ix_p0, ix_p1, wSl, woNone, woSome]))
    refine ⟨trivial, told_go o1 u1 (by omega) tb1 fun g2 sg => ?_⟩
    replace I := Inv0.ext I sg
    rw [out_in rfl rfl (by omega) (by omega)]
    refine ⟨_, _, _, _, rfl, rfl, rfl, ?_⟩
    dsimp only
    rw [if_pos rfl]
    rw [u_ixLd at1]
    show (endsD Q X).rt (.bl (decide ((rchB (bd3 s1 b5) : Int) ≤ 1))) g2
    rw [decide_eq_true (by omega)]
    exact fin_r q I (by omega)
end K03
namespace K03
open PySem PySem.Spec L2 C8 DL PK F1 PX
def DD : Nat → Ac
  | 0 => .bare "line"
  | n + 1 => .fork [DD n]
theorem dd_facts : ∀ n, okA (DD n) = true ∧ cntA (DD n) = n + 1
  | 0 => ⟨by decide +kernel, by rw [DD, cntA]⟩
  | n + 1 => by
    obtain ⟨h1, h2⟩ := dd_facts n
    exact ⟨by rw [DD, okA, okB, h1, okB]; rfl, by rw [DD, cntA, cntB, cntB, h2]⟩
theorem dd_pth : ∀ (k n : Nat) (p : List Nat) (c : Nat), k + p.length = 6 → k + 1 ≤ n → c + n + 1 ≤ 300 → (wrg k p (innL (enc (DD n))) c).1 = some (p ++ List.replicate (k + 1) 0)
  | k, 0, p, c, _, h, _ => by omega
  | 0, n + 1, p, c, hp, _, _ => by
    rw [innL_enc (dd_facts _).1, DD, inn, encs]
    exact wrg_deepest (by omega)
  | k + 1, n + 1, p, c, hp, hn, hc => by
    rw [innL_enc (dd_facts _).1, DD, inn, encs]
    refine wrg_into (k := k) (b := []) (by omega) (by rw [okB]) (by rw [dptB]; omega) (by rw [cntB]; omega) (headD_ok (dd_facts n).1) ?_
    rw [cntB, List.length_nil, dd_pth k n _ _ (by simp; omega) (by omega) (by omega), List.append_assoc, List.replicate_succ (n := k + 1)]; rfl
structure Itm (e : List D × List Nat) : Prop where
  th : PK.th (.tup e.1) = true
  fw : PX.fw e.1 = some e.2
def itD (e : List D × List Nat) : D := .tup [.tup e.1, plcD e.2]
def odL : List D := [.tup [.str "write", .int 0], .non, .tup [.str "fork", .lst []]]
theorem od_facts : odL.all (fun d => !headD d && PK.th d) = true := by decide +kernel
theorem th_cat {xs ys : List D} (h : th (.tup xs) = true) (g : th (.tup ys) = true) (l : xs.length + ys.length ≤ 1000) : th (.tup (xs ++ ys)) = true := by
  rw [PK.th, Bool.and_eq_true, decide_eq_true_iff] at h g ⊢
  exact ⟨by rw [List.length_append]; exact l, by rw [ths_ap, h.2, g.2]; rfl⟩
/-- the odd rows -/
theorem items {od : D} {a : Nat} (h1 : headD od = false) (h2 : th od = true) (ha : a ≤ 4) :
    Itm (encs (rw_ "flush" a) ++ [enc (DD 6), od], a :: List.replicate 6 0) ∧ Itm (encs (rw_ "flush" a) ++ [od, enc (DD 6)], [a]) ∧ Itm (encs (rw_ "flush" 300) ++ [od], [300]) ∧
    Itm (encs (rw_ "flush" 299) ++ [od, od], [299]) ∧ Itm (encs (rw_ "flush" 299) ++ [enc (DD 6), od], [299, 0]) ∧ Itm (encs (rw_ "flush" a) ++ encs (rw_ "flush" 300) ++ [enc (DD 6)], [300]) ∧
    Itm (encs (rw_ "flush" a) ++ [.tup [.str "fork", .tup [.tup [.str "repeat", .int 2, .tup [enc (DD 6), od]]]], od], a :: List.replicate 6 0) := by
  obtain ⟨o6, c6⟩ := dd_facts 6
  have t6 : th (enc (DD 6)) = true := by decide +kernel
  have r0 : ∀ m, m ≤ 300 → th (.tup (encs (rw_ "flush" m))) = true ∧ (encs (rw_ "flush" m)).length = m := fun m hm => ⟨thB_ok (rw_ok flush_b m) (by rw [rw_cnt]; omega), by rw [encs_len, rw_len]⟩
  have two : ∀ {x y : D}, th x = true → th y = true → th (.tup [x, y]) = true := fun {x y} hx hy => by rw [PK.th, Bool.and_eq_true, decide_eq_true_iff]; exact ⟨by show 2 ≤ 1000; decide, by rw [ths, ths, ths, hx, hy]; rfl⟩
  have one : ∀ {x : D}, th x = true → th (.tup [x]) = true := fun {x} hx => by rw [PK.th, Bool.and_eq_true, decide_eq_true_iff]; exact ⟨by show 1 ≤ 1000; decide, by rw [ths, ths, hx]; rfl⟩
  obtain ⟨ra, la⟩ := r0 a (by omega)
  obtain ⟨r3, l3⟩ := r0 300 (by omega)
  obtain ⟨r2, l2⟩ := r0 299 (by omega)
  have da := rw_dpt (w := "flush") a
  have d3 := rw_dpt (w := "flush") 300
  have d2 := rw_dpt (w := "flush") 299
  have s : ∀ (m : Nat) (x : D) (ys : List D), m ≤ 300 → (headD x = false ∨ m = 300) → fw (encs (rw_ "flush" m) ++ x :: ys) = some [m] := fun m x ys hm hx => by
    have := rw_dpt (w := "flush") m
    have := fw_stop (rw_ok flush_b m) (by omega) (by rw [rw_cnt]; omega) (x := x) (ys := ys) (by rw [rw_cnt]; exact hx)
    rw [this, rw_len]
  refine ⟨⟨th_cat ra (two t6 h2) (by rw [la]; show a + 2 ≤ 1000; omega), ?_⟩, ⟨th_cat ra (two h2 t6) (by rw [la]; show a + 2 ≤ 1000; omega), s a _ _ (by omega) (.inl h1)⟩, ⟨th_cat r3 (one h2) (by rw [l3]; show 300 + 1 ≤ 1000; decide), s 300 _ _ (by omega) (.inl h1)⟩,
    ⟨th_cat r2 (two h2 h2) (by rw [l2]; show 299 + 2 ≤ 1000; decide), s 299 _ _ (by omega) (.inl h1)⟩, ⟨th_cat r2 (two t6 h2) (by rw [l2]; show 299 + 2 ≤ 1000; decide), ?_⟩, ⟨th_cat (th_cat ra r3 (by rw [la, l3]; omega)) (one t6) (by rw [List.length_append, la, l3]; show a + 300 + 1 ≤ 1000; omega), ?_⟩, ⟨th_cat ra (two ?_ h2) (by rw [la]; show a + 2 ≤ 1000; omega), ?_⟩⟩
  · refine fw_into (rw_ok flush_b a) (by omega) (by rw [rw_cnt]; omega) (headD_ok o6) ?_
    rw [rw_len, rw_cnt, dd_pth 5 6 _ _ rfl (by decide) (by omega)]; rfl
  · refine fw_into (rw_ok flush_b 299) (by omega) (by rw [rw_cnt]; omega) (headD_ok o6) ?_
    rw [rw_len, rw_cnt, innL_enc o6, DD, inn, encs]
    exact wrg_stop (k := 4) (p := [299]) (b := []) (c := 300) rfl (by rw [okB]) (by rw [dptB]; decide) (by rw [cntB]; decide) (.inr (by rw [cntB]; decide))
  · have e : encs (rw_ "flush" a) ++ encs (rw_ "flush" 300) ++ [enc (DD 6)] = encs (rw_ "flush" 300) ++ (encs (rw_ "flush" a) ++ [enc (DD 6)]) := by
      rw [← List.append_assoc]
      congr 1
      rw [rw_encs, rw_encs, List.replicate_append_replicate, List.replicate_append_replicate, Nat.add_comm]
    rw [e]
    cases a with
    | zero => exact s 300 _ _ (by omega) (.inr rfl)
    | succ a =>
      rw [rw_, List.replicate_succ, encs, List.cons_append]
      exact s 300 _ _ (by omega) (.inr rfl)
  · exact two (x := .str "fork") (by decide +kernel) (one (by
      rw [PK.th, Bool.and_eq_true, decide_eq_true_iff]
      exact ⟨by show 3 ≤ 1000; decide, by rw [ths, ths, ths, ths, two t6 h2]; decide +kernel⟩))
  · refine fw_into (rw_ok flush_b a) (by omega) (by rw [rw_cnt]; omega) rfl ?_
    rw [rw_len, rw_cnt]
    refine wrg_into (k := 4) (p := [a]) (b := []) rfl (by rw [okB]) (by rw [dptB]; omega) (by rw [cntB]; omega) (x := .tup [.str "repeat", .int 2, .tup [enc (DD 6), od]]) (ys := []) rfl ?_
    rw [cntB]
    refine wrg_into (k := 3) (p := [a, 0]) (b := []) rfl (by rw [okB]) (by rw [dptB]; omega) (by rw [cntB]; omega) (x := enc (DD 6)) (ys := [od]) (headD_ok o6) ?_
    rw [cntB, dd_pth 3 6 _ _ rfl (by decide) (by omega)]; rfl
theorem u_par {i j : Nat} {a : WA} {D0 : EndsD} {ρ : EnvD} {h : AH} : wPar i j a D0 ρ h = a ρ h (fun ds h1 => ∃ x y, ds = [x, y] ∧ D0.nx ((ρ.set i (some x)).set j (some y)) h1) D0.ex := rfl
theorem mul0_go {n : Nat} {h : AH} {Q : KD} (hn : n ≤ 1000) (q : Q (plcD (List.replicate n 0)) h) : dMulTA (.tup [.int 0]) (.int (n : Nat)) h Q := by
  refine ⟨_, _, rfl, rfl, Nat.zero_lt_one, by omega, by omega, by show 1 ≤ 1000; decide, ?_⟩
  have e : (List.replicate (((n : Nat) : Int).toNat) [D.int 0]).flatten = (List.replicate n 0).map fun i : Nat => D.int i := by
    rw [Int.toNat_natCast]
    clear q hn
    induction n with
    | zero => rfl
    | succ m ih => rw [List.replicate_succ, List.replicate_succ, List.flatten_cons, ih]; rfl
  rw [e]
  exact q
theorem go_t2 {x y : D} {i j : Nat} {ρ : EnvD} {h : AH} {Q : EnvD → AH → Prop} {X : KX} (q : Q ((ρ.set i (some x)).set j (some y)) h) : gT 2 (gsN [i, j]) (.tup [x, y]) ρ h Q X := ⟨_, rfl, rfl, _, _, rfl, _, _, rfl, rfl, q⟩
theorem p__law_order_right (z : Ad) : ∀ ds h Q X, S__law_order_right z ds h Q X → w__law_order_right z (endsD Q X) (startD 11 ds) h := by
  rintro ds h Q X ⟨n, p, f, rfl, tb, I, hn, q⟩
  show w__law_order_right z (endsD Q X) [some (.ref p), some (.bl f), none, none, none, none, none, none, none, none, none] h
  have tp := tb.ne I
  replace I := Inv0.start I
  unfold w__law_order_right
  try dsimp only
  rw [u_seq, u_par]
  simp only [u_asg, u_gN, u_ret, u_retN, u_skip, u_expr, u_ifs, u_c, u_op, u_neg, u_test, u_and, u_or, u_not, u_if, u_nil, u_cons, u_tup, u_lst, u_callP, u_call, u_b, u_chain, u_andV, u_addI, u_subI, u_mulI, u_divI, u_modI, u_powI, u_cmpI, u_eqI, u_eqS, u_eqB, u_abs, u_intI, u_intB, u_newT, u_newF, u_isN, u_notN, wVar, List.set_cons_zero, List.set_cons_succ, List.getElem?_cons_zero, List.getElem?_cons_succ, List.length_cons, List.length_nil, u_lc, u_for, u_r1, u_r2, u_r3, u_num, u_notV, u_yes, u_w0, u_w1, u_dput, u_get2, u_dget, u_prop, u_fld, u_setF, u_make, u_makeS, u_met, u_calO, u_orT, u_tupIt, u_dc, u_maxDd, u_dnew, u_tupi, ix_p0, ix_p1, wSl, woNone, woSome]
  refine ⟨by decide, by decide, by decide, by decide, by decide, trivial, draw_go I (by omega) (div_ok (by decide) (by decide)) fun v o v0 v1 I _ => ?_⟩
  generalize up h p o = g at I ⊢
  obtain ⟨od, hod, eo⟩ := at_memq (xs := odL) v0 v1
  have ko := List.all_eq_true.mp od_facts od hod
  rw [Bool.and_eq_true] at ko
  obtain ⟨k1, k2⟩ := ko
  have k1 : headD od = false := by simpa using k1
  show dIx (.lst odL) (.int v) g _
  rw [u_ixLd eo]
  refine ⟨_, _, rfl, ?_⟩
  try simp only [List.set_cons_zero, List.set_cons_succ]
  refine seq_go (fun ρ h' => ∃ a4, ρ = [some (.ref p), some (.bl f), some (enc (DD 6)), some od, a4, none, none, none, none, none, none] ∧ g = h') (fun K k => ?_) ?_
  · simp only [u_asg, u_gN, u_ret, u_retN, u_skip, u_expr, u_ifs, u_c, u_op, u_neg, u_test, u_and, u_or, u_not, u_if, u_nil, u_cons, u_tup, u_lst, u_callP, u_call, u_b, u_chain, u_andV, u_addI, u_subI, u_mulI, u_divI, u_modI, u_powI, u_cmpI, u_eqI, u_eqS, u_eqB, u_abs, u_intI, u_intB, u_newT, u_newF, u_isN, u_notN, wVar, List.set_cons_zero, List.set_cons_succ, List.getElem?_cons_zero, List.getElem?_cons_succ, List.length_cons, List.length_nil, u_lc, u_for, u_r1, u_r2, u_r3, u_num, u_notV, u_yes, u_w0, u_w1, u_dput, u_get2, u_dget, u_prop, u_fld, u_setF, u_make, u_makeS, u_met, u_calO, u_orT, u_tupIt, u_dc, u_maxDd, u_dnew, u_tupi, ix_p0, ix_p1, wSl, woNone, woSome]
    refine ⟨by decide, by decide, ?_⟩
    refine loop_go (fun i ρ h' => ∃ a4, ρ = [some (.ref p), some (.bl f), some (enc (DD i)), some od, a4, none, none, none, none, none, none] ∧ g = h') ⟨none, by rw [DD, enc], rfl⟩ (fun _ _ _ _ => trivial) ?_ ?_
    · rintro i x _ _ K9 hi ⟨a4, rfl, rfl⟩ k9
      rw [u_gN]
      dsimp only [List.set_cons_zero, List.set_cons_succ]
      simp only [u_asg, u_gN, u_ret, u_retN, u_skip, u_expr, u_ifs, u_c, u_op, u_neg, u_test, u_and, u_or, u_not, u_if, u_nil, u_cons, u_tup, u_lst, u_callP, u_call, u_b, u_chain, u_andV, u_addI, u_subI, u_mulI, u_divI, u_modI, u_powI, u_cmpI, u_eqI, u_eqS, u_eqB, u_abs, u_intI, u_intB, u_newT, u_newF, u_isN, u_notN, wVar, List.set_cons_zero, List.set_cons_succ, List.getElem?_cons_zero, List.getElem?_cons_succ, List.length_cons, List.length_nil, u_lc, u_for, u_r1, u_r2, u_r3, u_num, u_notV, u_yes, u_w0, u_w1, u_dput, u_get2, u_dget, u_prop, u_fld, u_setF, u_make, u_makeS, u_met, u_calO, u_orT, u_tupIt, u_dc, u_maxDd, u_dnew, u_tupi, ix_p0, ix_p1, wSl, woNone, woSome]
      refine ⟨by decide, by decide, k9 _ _ ⟨some x, by rw [DD, enc, encs, encs], rfl⟩⟩
    · rintro _ _ ⟨a4, rfl, rfl⟩
      exact k _ _ ⟨_, rfl, rfl⟩
  rintro _ _ ⟨a4, rfl, rfl⟩
  ((try dsimp only); rw [u_seq]; (try simp only [u_asg, u_gN, u_ret, u_retN, u_skip, u_expr, u_ifs, u_c, u_op, u_neg, u_test, u_and, u_or, u_not, u_if, u_nil, u_cons, u_tup, u_lst, u_callP, u_call, u_b, u_chain, u_andV, u_addI, u_subI, u_mulI, u_divI, u_modI, u_powI, u_cmpI, u_eqI, u_eqS, u_eqB, u_abs, u_intI, u_intB, u_newT, u_newF, u_isN, u_notN, wVar, List.set_cons_zero, List.set_cons_succ, List.getElem?_cons_zero, List.getElem?_cons_succ, List.length_cons, List.length_nil, u_lc, u_for, u_r1, u_r2, u_r3, u_num, u_notV, u_yes, u_w0, u_w1, u_dput, u_get2, u_dget, u_prop, u_fld, u_setF, u_make, u_makeS, u_met, u_calO, u_orT, u_tupIt, u_dc, u_maxDd, u_dnew, u_tupi, ix_p0, ix_p1, wSl, woNone, woSome]))
  refine ⟨trivial, draw_go I (by omega) (div_ok (by decide) (by decide)) fun v o v0 v1 I _ => ?_⟩
  generalize up g p o = g at I ⊢
  obtain ⟨a, rfl⟩ := Int.eq_ofNat_of_zero_le v0
  have ha : a ≤ 4 := by omega
  obtain ⟨i1, i2, i3, i4, i5, i6, i7⟩ := items (od := od) (a := a) k1 k2 ha
  have la : (encs (rw_ "flush" a)).length = a := by rw [encs_len, rw_len]
  have l3 : (encs (rw_ "flush" 300)).length = 300 := by rw [encs_len, rw_len]
  have l2 : (encs (rw_ "flush" 299)).length = 299 := by rw [encs_len, rw_len]
  have cut : cutD (encs (rw_ "flush" 300)) (some 1) none = encs (rw_ "flush" 299) := by
    rw [rw_encs, rw_encs]
    show cutD _ (some ((1 : Nat) : Int)) none = _
    rw [cut_from, List.drop_replicate]
  rw [u_seq, u_par]
  simp only [u_asg, u_gN, u_ret, u_retN, u_skip, u_expr, u_ifs, u_c, u_op, u_neg, u_test, u_and, u_or, u_not, u_if, u_nil, u_cons, u_tup, u_lst, u_callP, u_call, u_b, u_chain, u_andV, u_addI, u_subI, u_mulI, u_divI, u_modI, u_powI, u_cmpI, u_eqI, u_eqS, u_eqB, u_abs, u_intI, u_intB, u_newT, u_newF, u_isN, u_notN, wVar, List.set_cons_zero, List.set_cons_succ, List.getElem?_cons_zero, List.getElem?_cons_succ, List.length_cons, List.length_nil, u_lc, u_for, u_r1, u_r2, u_r3, u_num, u_notV, u_yes, u_w0, u_w1, u_dput, u_get2, u_dget, u_prop, u_fld, u_setF, u_make, u_makeS, u_met, u_calO, u_orT, u_tupIt, u_dc, u_maxDd, u_dnew, u_tupi, ix_p0, ix_p1, wSl, woNone, woSome]
  refine ⟨by decide, by decide, mulT_go (m := a) rfl (by omega) ?_⟩
  try simp only [u_asg, u_gN, u_ret, u_retN, u_skip, u_expr, u_ifs, u_c, u_op, u_neg, u_test, u_and, u_or, u_not, u_if, u_nil, u_cons, u_tup, u_lst, u_callP, u_call, u_b, u_chain, u_andV, u_addI, u_subI, u_mulI, u_divI, u_modI, u_powI, u_cmpI, u_eqI, u_eqS, u_eqB, u_abs, u_intI, u_intB, u_newT, u_newF, u_isN, u_notN, wVar, List.set_cons_zero, List.set_cons_succ, List.getElem?_cons_zero, List.getElem?_cons_succ, List.length_cons, List.length_nil, u_lc, u_for, u_r1, u_r2, u_r3, u_num, u_notV, u_yes, u_w0, u_w1, u_dput, u_get2, u_dget, u_prop, u_fld, u_setF, u_make, u_makeS, u_met, u_calO, u_orT, u_tupIt, u_dc, u_maxDd, u_dnew, u_tupi, ix_p0, ix_p1, wSl, woNone, woSome]
  refine ⟨by decide, by decide, mulT_go (m := 300) rfl (by omega) ?_⟩
  refine ⟨_, _, rfl, ?_⟩
  generalize encs (rw_ "flush" a) = lead at *
  generalize encs (rw_ "flush" 300) = calm at *
  generalize encs (rw_ "flush" 299) = calm1 at *
  try simp only [List.set_cons_zero, List.set_cons_succ]
  rw [u_seq]
  rw [u_asg, u_lst]
  simp only [u_cons, u_nil, u_tup, u_op, u_c, wVar, List.getElem?_cons_zero, List.getElem?_cons_succ]
  have z1 : ∀ (n : Nat), n ≤ 1000 → n ≤ sizeLine := fun n h => Nat.le_trans h (by decide)
  have ad : ∀ {xs : List D} {x y : D} {g : AH} {Q : KD}, xs.length ≤ 400 → Q (.tup (xs ++ [x, y])) g → dAdd false (.tup xs) (.tup [x, y]) g Q := fun {xs x y g Q} l q => addT_go (by show xs.length + 2 ≤ 16000; omega) q
  have ad1 : ∀ {xs : List D} {x : D} {g : AH} {Q : KD}, xs.length ≤ 400 → Q (.tup (xs ++ [x])) g → dAdd false (.tup xs) (.tup [x]) g Q := fun {xs x g Q} l q => addT_go (by show xs.length + 1 ≤ 16000; omega) q
  have seat : ∀ {g : AH} {Q : KD}, Q (plcD (a :: List.replicate 6 0)) g → dMulTA (.tup [.int 0]) (.int 6) g (fun y h2 => dAdd false (.tup [.int (a : Nat)]) y h2 Q) := fun {g Q} q => mul0_go (n := 6) (by decide) (addT_go (by show 1 + 6 ≤ 16000; decide) q)
  have six : (.int 6 : D) = .int (6 : Nat) := rfl
  refine ⟨z1 2 (by decide), ad (by omega) ⟨z1 1 (by decide), z1 1 (by decide), seat ⟨z1 2 (by decide), z1 2 (by decide), ad (by omega) ⟨z1 1 (by decide), z1 2 (by decide), z1 1 (by decide), ad1 (by omega) ⟨z1 1 (by decide), z1 2 (by decide), z1 3 (by decide), ?_⟩⟩⟩⟩⟩
  intro r1 hr1
  replace I := I.new (o := .lst ([itD (lead ++ [enc (DD 6), od], a :: List.replicate 6 0), itD (lead ++ [od, enc (DD 6)], [a]), itD (calm ++ [od], [300])])) hr1
  have hg1 : (up g r1 (.lst [itD (lead ++ [enc (DD 6), od], a :: List.replicate 6 0), itD (lead ++ [od, enc (DD 6)], [a]), itD (calm ++ [od], [300])])) r1 = some (.lst [itD (lead ++ [enc (DD 6), od], a :: List.replicate 6 0), itD (lead ++ [od, enc (DD 6)], [a]), itD (calm ++ [od], [300])]) := up_same
  show gN 8 (.ref r1) _ (up g r1 (.lst [itD (lead ++ [enc (DD 6), od], a :: List.replicate 6 0), itD (lead ++ [od, enc (DD 6)], [a]), itD (calm ++ [od], [300])])) _ _
  generalize (up g r1 (.lst [itD (lead ++ [enc (DD 6), od], a :: List.replicate 6 0), itD (lead ++ [od, enc (DD 6)], [a]), itD (calm ++ [od], [300])])) = g at I hg1 ⊢
  rw [u_gN]
  dsimp only [List.set_cons_zero, List.set_cons_succ]
  rw [u_seq, u_asg, u_op]
  rw [u_var rfl, u_lst]
  simp only [u_cons, u_nil, u_tup, u_op, u_c, wVar, List.getElem?_cons_zero, List.getElem?_cons_succ, wSl, woNone, woSome]
  refine sl_tup cut ⟨z1 2 (by decide), ad (by omega) ⟨z1 1 (by decide), z1 2 (by decide), sl_tup cut ⟨z1 2 (by decide), ad (by omega) ⟨z1 2 (by decide), z1 2 (by decide), addT_go (by omega) ⟨z1 1 (by decide), ad1 (by rw [List.length_append]; omega) ⟨z1 1 (by decide), z1 2 (by decide), z1 3 (by decide), ?_⟩⟩⟩⟩⟩⟩
  refine ⟨_, _, lst_ref hg1, rfl, z1 6 (by decide), ?_⟩
  intro r2 hr2
  have r0 := I.fresh hr2
  replace I := I.new (o := .lst (List.map itD [(lead ++ [enc (DD 6), od], a :: List.replicate 6 0), (lead ++ [od, enc (DD 6)], [a]), (calm ++ [od], [300]), (calm1 ++ [od, od], [299]), (calm1 ++ [enc (DD 6), od], [299, 0]), (lead ++ calm ++ [enc (DD 6)], [300])])) hr2
  have hg2 : (up g r2 (.lst (List.map itD [(lead ++ [enc (DD 6), od], a :: List.replicate 6 0), (lead ++ [od, enc (DD 6)], [a]), (calm ++ [od], [300]), (calm1 ++ [od, od], [299]), (calm1 ++ [enc (DD 6), od], [299, 0]), (lead ++ calm ++ [enc (DD 6)], [300])]))) r2 = _ := up_same
  show gN 8 (.ref r2) _ (up g r2 (.lst (List.map itD [(lead ++ [enc (DD 6), od], a :: List.replicate 6 0), (lead ++ [od, enc (DD 6)], [a]), (calm ++ [od], [300]), (calm1 ++ [od, od], [299]), (calm1 ++ [enc (DD 6), od], [299, 0]), (lead ++ calm ++ [enc (DD 6)], [300])]))) _ _
  generalize (up g r2 (.lst (List.map itD [(lead ++ [enc (DD 6), od], a :: List.replicate 6 0), (lead ++ [od, enc (DD 6)], [a]), (calm ++ [od], [300]), (calm1 ++ [od, od], [299]), (calm1 ++ [enc (DD 6), od], [299, 0]), (lead ++ calm ++ [enc (DD 6)], [300])]))) = g at I hg2 ⊢
  obtain ⟨L, eL, hL⟩ : ∃ L, L = [(lead ++ [enc (DD 6), od], a :: List.replicate 6 0), (lead ++ [od, enc (DD 6)], [a]), (calm ++ [od], [300]), (calm1 ++ [od, od], [299]), (calm1 ++ [enc (DD 6), od], [299, 0]), (lead ++ calm ++ [enc (DD 6)], [300])] ∧ (∀ e ∈ L, Itm e) := ⟨_, rfl, fun e he => by
    simp only [List.mem_cons, List.not_mem_nil, or_false] at he
    rcases he with rfl | rfl | rfl | rfl | rfl | rfl <;> assumption⟩
  rw [← eL] at hg2
  have lL : L.length = 6 := by rw [eL]; rfl
  clear eL
  rw [u_gN]
  dsimp only [List.set_cons_zero, List.set_cons_succ]
  rw [u_seq, u_expr]
  simp only [wMethT, u_cons, u_nil, u_tup, u_op, u_c, wVar, List.getElem?_cons_zero, List.getElem?_cons_succ]
  refine ⟨⟨_, lst_ref hg2⟩, z1 2 (by decide), z1 3 (by decide), z1 1 (by decide), z1 2 (by decide), z1 2 (by decide), ad (by omega) ⟨z1 1 (by decide), z1 1 (by decide), seat ⟨z1 2 (by decide), ?_⟩⟩⟩
  refine ⟨r2, _, _, rfl, rfl, hg2, lt_sz (by rw [List.length_map, lL]; decide), ?_⟩
  obtain ⟨e7, h7⟩ : ∃ e : List D × List Nat, e = (lead ++ [.tup [.str "fork", .tup [.tup [.str "repeat", .int 2, .tup [enc (DD 6), od]]]], od], a :: List.replicate 6 0) := ⟨_, rfl⟩
  rw [← h7] at i7
  show wRet _ _ _ (up g r2 (.lst (List.map itD L ++ [itD (lead ++ [.tup [.str "fork", .tup [.tup [.str "repeat", .int 2, .tup [enc (DD 6), od]]]], od], a :: List.replicate 6 0)])))
  rw [← h7, show List.map itD L ++ [itD e7] = List.map itD (L ++ [e7]) by rw [List.map_append]; rfl]
  replace I := I.put (o := .lst (List.map itD (L ++ [e7]))) r0.1
  have hg3 : (up g r2 (.lst (List.map itD (L ++ [e7])))) r2 = _ := up_same
  generalize (up g r2 (.lst (List.map itD (L ++ [e7])))) = g at I hg3 ⊢
  have hL : ∀ e ∈ L ++ [e7], Itm e := fun e he => by
    rcases List.mem_append.mp he with he | he
    · exact hL e he
    · obtain rfl : e = e7 := by simpa using he
      exact i7
  generalize L ++ [e7] = L at hL hg3
  clear h7 e7 i7
  rw [u_ret, u_op]
  simp only [u_lc]
  refine seqi_go rfl (lst_ref hg3) fun st hst r3 hr3 => ?_
  have r3' := I.fresh hr3
  have n23 : r3 ≠ r2 := by rintro rfl; rw [hr3] at hg3; cases hg3
  refine comp_go (fun i h' => Inv0 h p (n + 14) h' ∧ h' r2 = some (.lst (List.map itD L)) ∧ h' r3 = some (.lst []) ∧ Sub g h') ⟨(I.new hr3).mono (by omega), by rw [up_ne n23.symm]; exact hg3, up_same, sub_up hr3⟩ (fun _ _ z => hst _ z.2.2.2) ?_ ?_
  · rintro i x g4 K9 hi ⟨I, hg4, hr4, sg4⟩ k9
    rw [List.getElem?_map] at hi
    obtain ⟨e, he, rfl⟩ := Option.map_eq_some_iff.mp hi
    have ie := hL e (List.mem_of_getElem? he)
    refine go_t2 ?_
    dsimp only [wipeD, List.foldl_cons, List.foldl_nil, List.set_cons_zero, List.set_cons_succ]
    simp only [u_asg, u_gN, u_ret, u_retN, u_skip, u_expr, u_ifs, u_c, u_op, u_neg, u_test, u_and, u_or, u_not, u_if, u_nil, u_cons, u_tup, u_lst, u_callP, u_call, u_b, u_chain, u_andV, u_addI, u_subI, u_mulI, u_divI, u_modI, u_powI, u_cmpI, u_eqI, u_eqS, u_eqB, u_abs, u_intI, u_intB, u_newT, u_newF, u_isN, u_notN, wVar, List.set_cons_zero, List.set_cons_succ, List.getElem?_cons_zero, List.getElem?_cons_succ, List.length_cons, List.length_nil, u_lc, u_for, u_r1, u_r2, u_r3, u_num, u_notV, u_yes, u_w0, u_w1, u_dput, u_get2, u_dget, u_prop, u_fld, u_setF, u_make, u_makeS, u_met, u_calO, u_orT, u_tupIt, u_dc, u_maxDd, u_dnew, u_tupi, ix_p0, ix_p1, wSl, woNone, woSome]
    refine ⟨trivial, bad_go ie.th ie.fw (tb.inv I tp) fun g5 sg => ?_⟩
    refine ⟨by decide, same_tup (fl_seat _) (by decide) ?_⟩
    dsimp only
    rw [if_neg (by decide)]
    exact k9 _ ⟨Inv0.ext I sg, sg _ _ hg4, sg _ _ hr4, sg4.trans sg⟩
  · rintro g4 ⟨I, hg4, hr4, sg4⟩
    refine ⟨_, hr4, ?_⟩
    rw [if_neg (by decide)]
    dsimp only
    rw [u_lst, u_nil]
    refine ⟨by decide, ?_⟩
    rw [u_newF]
    refine same_lst (xs := ([] : List D)) (k := 1) (fl_lst fun x hx => by cases hx) (by decide) ?_
    have I := inv_rm I r3'.1 r3'.2
    exact fin_r q I (by omega)
end K03
namespace K03
open PySem PySem.Spec L2 C8 DL PK F1 PX
/-! ### points -/
def pp (m t q r : Nat) : List Ac := [.rep t (rw_ "drop" m), .rep 100 (rw_ "flush" q)] ++ rw_ "both" r
theorem drop_b : bare "drop" = true := by decide +kernel
theorem both_b : bare "both" = true := by decide +kernel
theorem rw_rch0 {w : Str} (hw : w ≠ "line") (n : Nat) : rchL (rw_ w n) 0 0 = 0 := by
  have := rw_rch (w := w) hw (r := []) (h := 0) (m := 0) n
  rw [List.append_nil] at this
  rw [this, rchL]; rfl
theorem pp_facts {m t q r : Nat} (ht : t ≤ 300) : okB (pp m t q r) = true ∧ dptB (pp m t q r) ≤ 2 ∧ cntB (pp m t q r) = m + 1 + (q + 1) + r ∧ (∀ c, sizB (pp m t q r ++ c) = t * m + 100 * q + r + sizB c) ∧ (pp m t q r).length = 2 + r ∧ rchB (pp m t q r) = 0 := by
  have d1 := rw_dpt (w := "drop") m
  have d2 := rw_dpt (w := "flush") q
  have d3 := rw_dpt (w := "both") r
  unfold pp
  refine ⟨?_, ?_, ?_, fun c => ?_, ?_, ?_⟩
  · rw [okB_app, okB, okB, okB, okA, okA, rw_ok drop_b, rw_ok flush_b, rw_ok both_b, decide_eq_true ht]; rfl
  · rw [dptB_app, dptB, dptB, dptB, dptA, dptA]; omega
  · rw [cntB_app, cntB, cntB, cntB, cntA, cntA, rw_cnt, rw_cnt, rw_cnt]
  · rw [sizB_ap, sizB_ap, sizB, sizB, sizB, sizA, sizA, rw_siz, rw_siz, rw_siz]; omega
  · rw [List.length_append, rw_len]; rfl
  · have e1 : rchA (.rep t (rw_ "drop" m)) 0 0 = 0 := by
      rw [rchA, rw_byn (by decide), rw_rch0 (by decide)]
      split <;> simp
    have e2 : rchA (.rep 100 (rw_ "flush" q)) 0 0 = 0 := by
      rw [rchA, rw_byn (by decide), rw_rch0 (by decide)]
      simp
    have e3 : bynA (.rep t (rw_ "drop" m)) = 0 := by rw [bynA, rw_byn (by decide), Nat.mul_zero]
    have e4 : bynA (.rep 100 (rw_ "flush" q)) = 0 := by rw [bynA, rw_byn (by decide), Nat.mul_zero]
    rw [rchB, List.cons_append, List.cons_append, List.nil_append, rchL, e1, e3, rchL, e2, e4]
    exact rw_rch0 (by decide) r
def RR : Nat → Nat → Ac
  | 0, v => .write v
  | n + 1, v => .rep 300 [RR n v]
theorem rr_facts {v : Nat} (h1 : 1 ≤ v) (h2 : v ≤ 2000) : ∀ n, okA (RR n v) = true ∧ dptA (RR n v) = n + 1 ∧ cntA (RR n v) = n + 1 ∧ sizA (RR n v) = 300 ^ n
  | 0 => ⟨by rw [RR, okA, decide_eq_true h1, decide_eq_true h2]; rfl, by rw [RR, dptA], by rw [RR, cntA], by rw [RR, sizA]⟩
  | n + 1 => by
    obtain ⟨a, b, c, d⟩ := rr_facts h1 h2 n
    refine ⟨by rw [RR, okA, okB, a, okB]; rfl, by rw [RR, dptA, dptB, dptB, b]; omega, by rw [RR, cntA, cntB, cntB, c], by rw [RR, sizA, sizB, sizB, d, Nat.pow_succ, Nat.add_zero, Nat.mul_comm]⟩
/-! ### bytes -/
def hd_ (a : Nat) : List Ac := if 0 < a then [.write a] else []
def bb (a t s : Nat) : List Ac := hd_ a ++ [.rep t [.write s, .bare "quit"]]
theorem bb_facts {a t s : Nat} (ha : a ≤ 2000) (ht : t ≤ 300) (h1 : 1 ≤ s) (h2 : s ≤ 2000) : okB (bb a t s) = true ∧ dptB (bb a t s) ≤ 2 ∧ cntB (bb a t s) ≤ 4 ∧ (∀ c, sizB (bb a t s ++ c) = (if 0 < a then 1 else 0) + 2 * t + sizB c) ∧ (bb a t s).length ≤ 2 ∧ ∀ c, ∃ M, M ≤ a + t * s ∧ rchL (bb a t s ++ c) 0 0 = rchL c (a + t * s) M := by
  have hr : bynB [.write s, .bare "quit"] = s := by rw [bynB, bynB, bynB, bynA, bynA, byt, if_neg (by decide)]; rfl
  have rr : rchL [.write s, .bare "quit"] 0 0 = s := by
    rw [rchL, rchL, rchL, rchA, rchA, bynA, bynA, byt, if_neg (by decide)]; omega
  have oq : okA (.bare "quit") = true := by decide +kernel
  have rp : ∀ h m, m ≤ h → ∃ M, M ≤ h + t * s ∧ rchA (.rep t [.write s, .bare "quit"]) h m = M := fun h m hm => by
    rw [rchA, hr, rr]
    by_cases c : t = 0
    · rw [if_pos c]; exact ⟨_, by omega, rfl⟩
    · rw [if_neg c]
      refine ⟨_, ?_, rfl⟩
      obtain ⟨u, rfl⟩ : ∃ u, t = u + 1 := ⟨t - 1, by omega⟩
      rw [Nat.add_sub_cancel, Nat.add_mul]
      generalize u * s = w
      omega
  have by2 : bynA (.rep t [.write s, .bare "quit"]) = t * s := by rw [bynA, hr]
  unfold bb hd_
  by_cases c : 0 < a
  · rw [if_pos c, if_pos c]
    refine ⟨?_, ?_, ?_, fun c => ?_, ?_, fun c => ?_⟩
    · rw [List.cons_append, List.nil_append, okB, okB, okB, okA, okA, okB, okB, okB, oq, okA]
      simp only [Bool.and_eq_true, decide_eq_true_iff, and_true]
      omega
    · rw [List.cons_append, List.nil_append, dptB, dptB, dptB, dptA, dptA, dptB, dptB, dptB, dptA, dptA]; decide
    · rw [List.cons_append, List.nil_append, cntB, cntB, cntB, cntA, cntA, cntB, cntB, cntB, cntA, cntA]; decide
    · rw [sizB_ap, List.cons_append, List.nil_append, sizB, sizB, sizB, sizA, sizA, sizB, sizB, sizB, sizA, sizA]; omega
    · exact Nat.le_refl 2
    · rw [List.cons_append, List.nil_append, List.cons_append, List.cons_append, List.nil_append, rchL, rchL, rchA, by2, bynA]
      obtain ⟨M, hM, e⟩ := rp (0 + a) 0 (by omega)
      rw [e]
      exact ⟨M, by omega, by rw [Nat.zero_add]⟩
  · rw [if_neg c, if_neg c]
    obtain rfl : a = 0 := by omega
    refine ⟨?_, ?_, ?_, fun c => ?_, ?_, fun c => ?_⟩
    · rw [List.nil_append, okB, okB, okA, okB, okB, okB, oq, okA]
      simp only [Bool.and_eq_true, decide_eq_true_iff, and_true]
      omega
    · rw [List.nil_append, dptB, dptB, dptA, dptB, dptB, dptB, dptA, dptA]; decide
    · rw [List.nil_append, cntB, cntB, cntA, cntB, cntB, cntB, cntA, cntA]; decide
    · rw [sizB_ap, List.nil_append, sizB, sizB, sizA, sizB, sizB, sizB, sizA, sizA]; omega
    · exact Nat.le_succ 1
    · rw [List.nil_append, List.cons_append, List.nil_append, rchL, by2]
      obtain ⟨M, hM, e⟩ := rp 0 0 (by omega)
      rw [e]
      exact ⟨M, by omega, by rw [Nat.zero_add]⟩
theorem min_go {i j r : Int} {h : AH} {Q : KD} (e : (if j < i then j else i) = r) (q : Q (.int r) h) : dMin2 [.int i, .int j] h Q := by
  show Q (.int _) h
  rw [e]; exact q
theorem max_go {i j r : Int} {h : AH} {Q : KD} (e : (if j > i then j else i) = r) (q : Q (.int r) h) : dMax2 [.int i, .int j] h Q := by
  show Q (.int _) h
  rw [e]; exact q
theorem mulL_go {w : Str} {n : Int} {m : Nat} {h : AH} {Q : KD} (e : n = (m : Int)) (hm : m ≤ 1000) (q : Q (.lst (encs (rw_ w m))) h) : dMul false (.lst [.tup [.str w]]) (.int n) h Q := by
  subst e
  refine ⟨_, rfl, by omega, by omega, sz_le (by rw [Int.toNat_natCast]; show 1 * m ≤ 100000; omega), ?_⟩
  rw [u_newF]
  have e : (List.replicate (((m : Nat) : Int).toNat) [D.tup [D.str w]]).flatten = encs (rw_ w m) := by
    rw [rw_encs, Int.toNat_natCast]
    clear q hm
    induction m with
    | zero => rfl
    | succ m ih => rw [List.replicate_succ, List.replicate_succ, List.flatten_cons, ih]; rfl
  rw [e]
  exact q
theorem p__law_points_right (z : Ad) : ∀ ds h Q X, S__law_points_right z ds h Q X → w__law_points_right z (endsD Q X) (startD 10 ds) h := by
  rintro ds h Q X ⟨n, p, f, rfl, tb, I, hn, q⟩
  show w__law_points_right z (endsD Q X) [some (.ref p), some (.bl f), none, none, none, none, none, none, none, none] h
  have tp := tb.ne I
  replace I := Inv0.start I
  unfold w__law_points_right
  try dsimp only
  rw [u_seq, u_par]
  simp only [u_asg, u_gN, u_ret, u_retN, u_skip, u_expr, u_ifs, u_c, u_op, u_neg, u_test, u_and, u_or, u_not, u_if, u_nil, u_cons, u_tup, u_lst, u_callP, u_call, u_b, u_chain, u_andV, u_addI, u_subI, u_mulI, u_divI, u_modI, u_powI, u_cmpI, u_eqI, u_eqS, u_eqB, u_abs, u_intI, u_intB, u_newT, u_newF, u_isN, u_notN, wVar, List.set_cons_zero, List.set_cons_succ, List.getElem?_cons_zero, List.getElem?_cons_succ, List.length_cons, List.length_nil, u_lc, u_for, u_r1, u_r2, u_r3, u_num, u_notV, u_yes, u_w0, u_w1, u_dput, u_get2, u_dget, u_prop, u_fld, u_setF, u_make, u_makeS, u_met, u_calO, u_orT, u_tupIt, u_dc, u_maxDd, u_dnew, u_tupi, ix_p0, ix_p1, wSl, woNone, woSome]
  refine ⟨trivial, draw_go I (by omega) (div_ok (by decide) (by decide)) fun v o v0 v1 I _ => ?_⟩
  generalize up h p o = g at I ⊢
  obtain ⟨m, rfl⟩ := Int.eq_ofNat_of_zero_le v0
  try simp only [u_asg, u_gN, u_ret, u_retN, u_skip, u_expr, u_ifs, u_c, u_op, u_neg, u_test, u_and, u_or, u_not, u_if, u_nil, u_cons, u_tup, u_lst, u_callP, u_call, u_b, u_chain, u_andV, u_addI, u_subI, u_mulI, u_divI, u_modI, u_powI, u_cmpI, u_eqI, u_eqS, u_eqB, u_abs, u_intI, u_intB, u_newT, u_newF, u_isN, u_notN, wVar, List.set_cons_zero, List.set_cons_succ, List.getElem?_cons_zero, List.getElem?_cons_succ, List.length_cons, List.length_nil, u_lc, u_for, u_r1, u_r2, u_r3, u_num, u_notV, u_yes, u_w0, u_w1, u_dput, u_get2, u_dget, u_prop, u_fld, u_setF, u_make, u_makeS, u_met, u_calO, u_orT, u_tupIt, u_dc, u_maxDd, u_dnew, u_tupi, ix_p0, ix_p1, wSl, woNone, woSome]
  refine ⟨trivial, draw_go I (by omega) (div_ok (by decide) (by decide)) fun v o v2 v3 I _ => ?_⟩
  generalize up g p o = g at I ⊢
  obtain ⟨t, rfl⟩ := Int.eq_ofNat_of_zero_le v2
  refine ⟨_, _, rfl, ?_⟩
  try simp only [List.set_cons_zero, List.set_cons_succ]
  rw [show (1 : Int) + (m : Nat) = ((m + 1 : Nat) : Int) by omega, show (100 : Int) + (t : Nat) = ((t + 100 : Nat) : Int) by omega]
  have lm : 1 ≤ m + 1 ∧ m + 1 ≤ 20 := by omega
  have lt : 100 ≤ t + 100 ∧ t + 100 ≤ 300 := by omega
  generalize m + 1 = m at lm ⊢
  generalize t + 100 = t at lt ⊢
  obtain ⟨t2, e2, h2, h3⟩ : ∃ t2 : Nat, (if (2000 / (m : Int)) < (t : Int) then 2000 / (m : Int) else (t : Int)) = (t2 : Int) ∧ t2 ≤ 300 ∧ m * t2 ≤ 2000 := by
    have e : (2000 : Int) / (m : Int) = ((2000 / m : Nat) : Int) := by simp
    have d := Nat.mul_div_le 2000 m
    rw [e]
    by_cases c : ((2000 / m : Nat) : Int) < (t : Int)
    · rw [if_pos c]
      exact ⟨_, rfl, by omega, d⟩
    · rw [if_neg c]
      refine ⟨t, rfl, lt.2, Nat.le_trans (Nat.mul_le_mul_left m (by omega)) d⟩
  ((try dsimp only); rw [u_seq]; (try simp only [u_asg, u_gN, u_ret, u_retN, u_skip, u_expr, u_ifs, u_c, u_op, u_neg, u_test, u_and, u_or, u_not, u_if, u_nil, u_cons, u_tup, u_lst, u_callP, u_call, u_b, u_chain, u_andV, u_addI, u_subI, u_mulI, u_divI, u_modI, u_powI, u_cmpI, u_eqI, u_eqS, u_eqB, u_abs, u_intI, u_intB, u_newT, u_newF, u_isN, u_notN, wVar, List.set_cons_zero, List.set_cons_succ, List.getElem?_cons_zero, List.getElem?_cons_succ, List.length_cons, List.length_nil, u_lc, u_for, u_r1, u_r2, u_r3, u_num, u_notV, u_yes, u_w0, u_w1, u_dput, u_get2, u_dget, u_prop, u_fld, u_setF, u_make, u_makeS, u_met, u_calO, u_orT, u_tupIt, u_dc, u_maxDd, u_dnew, u_tupi, ix_p0, ix_p1, wSl, woNone, woSome]))
  refine ⟨div_ok (by omega) (by omega), ?_⟩
  refine min_go e2 ?_
  obtain ⟨r, hr⟩ : ∃ r, m * t2 + r = 2000 := ⟨2000 - m * t2, by omega⟩
  ((try dsimp only); rw [u_seq]; (try simp only [u_asg, u_gN, u_ret, u_retN, u_skip, u_expr, u_ifs, u_c, u_op, u_neg, u_test, u_and, u_or, u_not, u_if, u_nil, u_cons, u_tup, u_lst, u_callP, u_call, u_b, u_chain, u_andV, u_addI, u_subI, u_mulI, u_divI, u_modI, u_powI, u_cmpI, u_eqI, u_eqS, u_eqB, u_abs, u_intI, u_intB, u_newT, u_newF, u_isN, u_notN, wVar, List.set_cons_zero, List.set_cons_succ, List.getElem?_cons_zero, List.getElem?_cons_succ, List.length_cons, List.length_nil, u_lc, u_for, u_r1, u_r2, u_r3, u_num, u_notV, u_yes, u_w0, u_w1, u_dput, u_get2, u_dget, u_prop, u_fld, u_setF, u_make, u_makeS, u_met, u_calO, u_orT, u_tupIt, u_dc, u_maxDd, u_dnew, u_tupi, ix_p0, ix_p1, wSl, woNone, woSome]))
  refine ⟨.inl ⟨by omega, by omega⟩, ?_⟩
  rw [show (2000 : Int) - (m : Int) * (t2 : Int) = ((r : Nat) : Int) by rw [← Int.natCast_mul]; omega]
  have q1 : r / 100 ≤ 20 := by omega
  have q2 : r % 100 < 100 := by omega
  rw [u_seq, u_asg, u_op, u_lst]
  simp only [u_cons, u_nil, u_tup, u_op, u_c, wVar, List.getElem?_cons_zero, List.getElem?_cons_succ, u_lst]
  obtain ⟨k1, k2, k3, k4, k5, k6⟩ := pp_facts (m := m) (t := t2) (q := r / 100) (r := r % 100) h2
  have ks : t2 * m + 100 * (r / 100) + r % 100 = 2000 := by rw [Nat.mul_comm t2 m]; omega
  have tb1 : Tb z g := tb.inv I tp
  have z1 : ∀ (n : Nat), n ≤ 1000 → n ≤ sizeLine := fun n h => Nat.le_trans h (by decide)
  refine ⟨by decide, by decide, div_ok (by decide) (by decide), mulT_go (m := r / 100) (by omega) (by omega) ⟨z1 3 (by decide), z1 1 (by decide), by decide, by decide, by decide, mulL_go (m := r % 100) (by omega) (by omega) (addL_go (by rw [encs_len, rw_len]; show 1 + r % 100 ≤ 16000; omega) ?_)⟩⟩
  rw [u_gN]
  dsimp only [List.set_cons_zero, List.set_cons_succ]
  ((try dsimp only); rw [u_seq]; (try simp only [u_asg, u_gN, u_ret, u_retN, u_skip, u_expr, u_ifs, u_c, u_op, u_neg, u_test, u_and, u_or, u_not, u_if, u_nil, u_cons, u_tup, u_lst, u_callP, u_call, u_b, u_chain, u_andV, u_addI, u_subI, u_mulI, u_divI, u_modI, u_powI, u_cmpI, u_eqI, u_eqS, u_eqB, u_abs, u_intI, u_intB, u_newT, u_newF, u_isN, u_notN, wVar, List.set_cons_zero, List.set_cons_succ, List.getElem?_cons_zero, List.getElem?_cons_succ, List.length_cons, List.length_nil, u_lc, u_for, u_r1, u_r2, u_r3, u_num, u_notV, u_yes, u_w0, u_w1, u_dput, u_get2, u_dget, u_prop, u_fld, u_setF, u_make, u_makeS, u_met, u_calO, u_orT, u_tupIt, u_dc, u_maxDd, u_dnew, u_tupi, ix_p0, ix_p1, wSl, woNone, woSome]))
  refine ⟨by decide, by decide, mulT_go (m := m) rfl (by omega) ⟨by decide, by decide, ⟨_, _, rfl, rfl, addT_go (by rw [List.length_append, encs_len, rw_len]; show 1 + (1 + r % 100) ≤ 16000; omega) ?_⟩⟩⟩
  rw [show D.tup ([D.tup [.str "repeat", .int (t2 : Nat), .tup (encs (rw_ "drop" m))]] ++ ([D.tup [.str "repeat", .int 100, .tup (encs (rw_ "flush" (r / 100)))]] ++ encs (rw_ "both" (r % 100)))) = .tup (encs (pp m t2 (r / 100) (r % 100))) by
    rw [pp, encs_app, encs, encs, encs, enc, enc]; rfl]
  generalize hB : pp m t2 (r / 100) (r % 100) = B at *
  have sB : sizB B = 2000 := by have := k4 []; rw [List.append_nil, sizB] at this; omega
  have lB : (encs B).length ≤ 110 := by rw [encs_len, k5]; omega
  ((try dsimp only); rw [u_seq]; (try simp only [u_asg, u_gN, u_ret, u_retN, u_skip, u_expr, u_ifs, u_c, u_op, u_neg, u_test, u_and, u_or, u_not, u_if, u_nil, u_cons, u_tup, u_lst, u_callP, u_call, u_b, u_chain, u_andV, u_addI, u_subI, u_mulI, u_divI, u_modI, u_powI, u_cmpI, u_eqI, u_eqS, u_eqB, u_abs, u_intI, u_intB, u_newT, u_newF, u_isN, u_notN, wVar, List.set_cons_zero, List.set_cons_succ, List.getElem?_cons_zero, List.getElem?_cons_succ, List.length_cons, List.length_nil, u_lc, u_for, u_r1, u_r2, u_r3, u_num, u_notV, u_yes, u_w0, u_w1, u_dput, u_get2, u_dget, u_prop, u_fld, u_setF, u_make, u_makeS, u_met, u_calO, u_orT, u_tupIt, u_dc, u_maxDd, u_dnew, u_tupi, ix_p0, ix_p1, wSl, woNone, woSome]))
  refine ⟨trivial, told_go k1 (by omega) (by omega) tb1 fun g1 sg => ?_⟩
  rw [out_in sB k6 (by decide) (by decide)]
  refine ⟨by decide, same_lst (fl_two _ _) (by decide) ?_⟩
  dsimp only
  rw [if_neg (by decide)]
  replace I := Inv0.ext I sg
  replace tb1 := tb1.sub sg
  ((try dsimp only); rw [u_seq]; (try simp only [u_asg, u_gN, u_ret, u_retN, u_skip, u_expr, u_ifs, u_c, u_op, u_neg, u_test, u_and, u_or, u_not, u_if, u_nil, u_cons, u_tup, u_lst, u_callP, u_call, u_b, u_chain, u_andV, u_addI, u_subI, u_mulI, u_divI, u_modI, u_powI, u_cmpI, u_eqI, u_eqS, u_eqB, u_abs, u_intI, u_intB, u_newT, u_newF, u_isN, u_notN, wVar, List.set_cons_zero, List.set_cons_succ, List.getElem?_cons_zero, List.getElem?_cons_succ, List.length_cons, List.length_nil, u_lc, u_for, u_r1, u_r2, u_r3, u_num, u_notV, u_yes, u_w0, u_w1, u_dput, u_get2, u_dget, u_prop, u_fld, u_setF, u_make, u_makeS, u_met, u_calO, u_orT, u_tupIt, u_dc, u_maxDd, u_dnew, u_tupi, ix_p0, ix_p1, wSl, woNone, woSome]))
  refine ⟨by decide, by decide, by decide, by decide, ?_⟩
  have more : ∀ (a : Ac) (g : AH) (s : Nat) (Q2 : KD), okA a = true → dptA a ≤ 2 → cntA a ≤ 3 → sizA a = s → 0 < s → Tb z g → (∀ g2, Sub g g2 → Q2 (.tup [.str "large", .int ((2000 + s : Nat) : Int)]) g2) → ∀ X2 : KX, S__law_told z [.tup (encs B ++ [enc a]), .bl f] g Q2 X2 := fun a g s Q2 oa da ca sa s0 tg q2 X2 => by
    rw [show encs B ++ [enc a] = encs (B ++ [a]) by rw [encs_app, encs, show encs [] = ([] : List D) by rw [encs]]]
    refine told_go (by rw [okB_app, k1, okB, oa, okB]; rfl) (by rw [dptB_app, dptB, dptB]; omega) (by rw [cntB_app, cntB, cntB]; omega) tg fun g2 sg => ?_
    rw [out_large (s := 2000 + s) (by rw [sizB_ap, sizB, sizB]; omega) (by omega)]
    exact q2 g2 sg
  ((try dsimp only); rw [u_seq]; (try simp only [u_asg, u_gN, u_ret, u_retN, u_skip, u_expr, u_ifs, u_c, u_op, u_neg, u_test, u_and, u_or, u_not, u_if, u_nil, u_cons, u_tup, u_lst, u_callP, u_call, u_b, u_chain, u_andV, u_addI, u_subI, u_mulI, u_divI, u_modI, u_powI, u_cmpI, u_eqI, u_eqS, u_eqB, u_abs, u_intI, u_intB, u_newT, u_newF, u_isN, u_notN, wVar, List.set_cons_zero, List.set_cons_succ, List.getElem?_cons_zero, List.getElem?_cons_succ, List.length_cons, List.length_nil, u_lc, u_for, u_r1, u_r2, u_r3, u_num, u_notV, u_yes, u_w0, u_w1, u_dput, u_get2, u_dget, u_prop, u_fld, u_setF, u_make, u_makeS, u_met, u_calO, u_orT, u_tupIt, u_dc, u_maxDd, u_dnew, u_tupi, ix_p0, ix_p1, wSl, woNone, woSome]))
  refine ⟨by decide, by decide, addT_go (by show _ + 1 ≤ 16000; omega) ⟨trivial, more (.bare "exit") _ 1 _ (by decide +kernel) (by decide +kernel) (by decide +kernel) (by decide +kernel) (by decide) tb1 (fun g2 sg => ?_) _⟩⟩
  refine ⟨by decide, same_tup (fl_lrg _) (by decide) ?_⟩
  dsimp only
  rw [if_neg (by decide)]
  replace I := Inv0.ext I sg
  replace tb1 := tb1.sub sg
  ((try dsimp only); rw [u_seq]; (try simp only [u_asg, u_gN, u_ret, u_retN, u_skip, u_expr, u_ifs, u_c, u_op, u_neg, u_test, u_and, u_or, u_not, u_if, u_nil, u_cons, u_tup, u_lst, u_callP, u_call, u_b, u_chain, u_andV, u_addI, u_subI, u_mulI, u_divI, u_modI, u_powI, u_cmpI, u_eqI, u_eqS, u_eqB, u_abs, u_intI, u_intB, u_newT, u_newF, u_isN, u_notN, wVar, List.set_cons_zero, List.set_cons_succ, List.getElem?_cons_zero, List.getElem?_cons_succ, List.length_cons, List.length_nil, u_lc, u_for, u_r1, u_r2, u_r3, u_num, u_notV, u_yes, u_w0, u_w1, u_dput, u_get2, u_dget, u_prop, u_fld, u_setF, u_make, u_makeS, u_met, u_calO, u_orT, u_tupIt, u_dc, u_maxDd, u_dnew, u_tupi, ix_p0, ix_p1, wSl, woNone, woSome]))
  refine ⟨by decide, addT_go (by show _ + 1 ≤ 16000; omega) ⟨trivial, more (.fork [.write 2000, .bare "line"]) _ 3 _ (by decide +kernel) (by decide +kernel) (by decide +kernel) (by decide +kernel) (by decide) tb1 (fun g2 sg => ?_) _⟩⟩
  refine ⟨by decide, same_tup (fl_lrg _) (by decide) ?_⟩
  dsimp only
  rw [if_neg (by decide)]
  replace I := Inv0.ext I sg
  replace tb1 := tb1.sub sg
  ((try dsimp only); rw [u_seq]; (try simp only [u_asg, u_gN, u_ret, u_retN, u_skip, u_expr, u_ifs, u_c, u_op, u_neg, u_test, u_and, u_or, u_not, u_if, u_nil, u_cons, u_tup, u_lst, u_callP, u_call, u_b, u_chain, u_andV, u_addI, u_subI, u_mulI, u_divI, u_modI, u_powI, u_cmpI, u_eqI, u_eqS, u_eqB, u_abs, u_intI, u_intB, u_newT, u_newF, u_isN, u_notN, wVar, List.set_cons_zero, List.set_cons_succ, List.getElem?_cons_zero, List.getElem?_cons_succ, List.length_cons, List.length_nil, u_lc, u_for, u_r1, u_r2, u_r3, u_num, u_notV, u_yes, u_w0, u_w1, u_dput, u_get2, u_dget, u_prop, u_fld, u_setF, u_make, u_makeS, u_met, u_calO, u_orT, u_tupIt, u_dc, u_maxDd, u_dnew, u_tupi, ix_p0, ix_p1, wSl, woNone, woSome]))
  refine ⟨trivial, draw_go I (by omega) (div_ok (by decide) (by decide)) fun v o v4 v5 I _ => ?_⟩
  have tb1 := tb.inv I tp
  generalize up g2 p o = g at I tb1 ⊢
  obtain ⟨w, rfl⟩ := Int.eq_ofNat_of_zero_le v4
  rw [u_addI, show (1 : Int) + (w : Nat) = ((w + 1 : Nat) : Int) by omega]
  refine ⟨by decide, ?_⟩
  obtain ⟨f1, f2, f3, f4⟩ := rr_facts (v := w + 1) (by omega) (by omega) 5
  refine seq_go (fun ρ h' => ∃ a5 a6 a7 a9, ρ = [some (.ref p), some (.bl f), some (.int (m : Nat)), some (.int (t2 : Nat)), some (.int (r : Nat)), a5, a6, a7, some (enc (RR 5 (w + 1))), a9] ∧ g = h') (fun K k => ?_) ?_
  · simp only [u_asg, u_gN, u_ret, u_retN, u_skip, u_expr, u_ifs, u_c, u_op, u_neg, u_test, u_and, u_or, u_not, u_if, u_nil, u_cons, u_tup, u_lst, u_callP, u_call, u_b, u_chain, u_andV, u_addI, u_subI, u_mulI, u_divI, u_modI, u_powI, u_cmpI, u_eqI, u_eqS, u_eqB, u_abs, u_intI, u_intB, u_newT, u_newF, u_isN, u_notN, wVar, List.set_cons_zero, List.set_cons_succ, List.getElem?_cons_zero, List.getElem?_cons_succ, List.length_cons, List.length_nil, u_lc, u_for, u_r1, u_r2, u_r3, u_num, u_notV, u_yes, u_w0, u_w1, u_dput, u_get2, u_dget, u_prop, u_fld, u_setF, u_make, u_makeS, u_met, u_calO, u_orT, u_tupIt, u_dc, u_maxDd, u_dnew, u_tupi, ix_p0, ix_p1, wSl, woNone, woSome]
    refine ⟨by decide, by decide, ?_⟩
    refine loop_go (fun i ρ h' => ∃ a5 a6 a7 a9, ρ = [some (.ref p), some (.bl f), some (.int (m : Nat)), some (.int (t2 : Nat)), some (.int (r : Nat)), a5, a6, a7, some (enc (RR i (w + 1))), a9] ∧ g = h') ⟨_, _, _, _, by rw [RR, enc], rfl⟩ (fun _ _ _ _ => trivial) ?_ ?_
    · rintro i x _ _ K9 hi ⟨a5, a6, a7, a9, rfl, rfl⟩ k9
      rw [u_gN]
      dsimp only [List.set_cons_zero, List.set_cons_succ]
      simp only [u_asg, u_gN, u_ret, u_retN, u_skip, u_expr, u_ifs, u_c, u_op, u_neg, u_test, u_and, u_or, u_not, u_if, u_nil, u_cons, u_tup, u_lst, u_callP, u_call, u_b, u_chain, u_andV, u_addI, u_subI, u_mulI, u_divI, u_modI, u_powI, u_cmpI, u_eqI, u_eqS, u_eqB, u_abs, u_intI, u_intB, u_newT, u_newF, u_isN, u_notN, wVar, List.set_cons_zero, List.set_cons_succ, List.getElem?_cons_zero, List.getElem?_cons_succ, List.length_cons, List.length_nil, u_lc, u_for, u_r1, u_r2, u_r3, u_num, u_notV, u_yes, u_w0, u_w1, u_dput, u_get2, u_dget, u_prop, u_fld, u_setF, u_make, u_makeS, u_met, u_calO, u_orT, u_tupIt, u_dc, u_maxDd, u_dnew, u_tupi, ix_p0, ix_p1, wSl, woNone, woSome]
      refine ⟨by decide, by decide, k9 _ _ ⟨a5, a6, a7, some x, by rw [RR, enc, encs, encs]; rfl, rfl⟩⟩
    · rintro _ _ ⟨a5, a6, a7, a9, rfl, rfl⟩
      exact k _ _ ⟨_, _, _, _, rfl, rfl⟩
  rintro _ _ ⟨a5, a6, a7, a9, rfl, rfl⟩
  simp only [u_asg, u_gN, u_ret, u_retN, u_skip, u_expr, u_ifs, u_c, u_op, u_neg, u_test, u_and, u_or, u_not, u_if, u_nil, u_cons, u_tup, u_lst, u_callP, u_call, u_b, u_chain, u_andV, u_addI, u_subI, u_mulI, u_divI, u_modI, u_powI, u_cmpI, u_eqI, u_eqS, u_eqB, u_abs, u_intI, u_intB, u_newT, u_newF, u_isN, u_notN, wVar, List.set_cons_zero, List.set_cons_succ, List.getElem?_cons_zero, List.getElem?_cons_succ, List.length_cons, List.length_nil, u_lc, u_for, u_r1, u_r2, u_r3, u_num, u_notV, u_yes, u_w0, u_w1, u_dput, u_get2, u_dget, u_prop, u_fld, u_setF, u_make, u_makeS, u_met, u_calO, u_orT, u_tupIt, u_dc, u_maxDd, u_dnew, u_tupi, ix_p0, ix_p1, wSl, woNone, woSome]
  rw [show D.tup [enc (RR 5 (w + 1))] = .tup (encs [RR 5 (w + 1)]) by rw [encs, encs]]
  refine ⟨by decide, trivial, told_go (by rw [okB, f1, okB]; rfl) (by rw [dptB, dptB, f2]; decide) (by rw [cntB, cntB, f3]; decide) tb1 fun g2 sg => ?_⟩
  rw [out_large (s := 300 ^ 5) (by rw [sizB, sizB, f4]) (by decide)]
  refine ⟨⟨by decide, by decide, by decide⟩, by decide, ?_⟩
  rw [show ((300 : Int) ^ Int.toNat 5) = ((300 ^ 5 : Nat) : Int) by decide]
  exact same_tup (fl_lrg _) (by decide) (fin_r q (Inv0.ext I sg) (by omega))
theorem ne_ex : ¬ ("exit" : Str) = "line" := by decide +kernel
theorem ne_fl : ¬ ("flush" : Str) = "line" := by decide +kernel
def cA (d : Nat) : Ac := .fork [.bare "exit", .write d]
def cC (d : Nat) : Ac := .rep 2 [.fork [.bare "line", .write d], .bare "flush"]
def cN_ : Ac := .rep 0 [.write 2000, .write 2000]
theorem cA_rch {h M d : Nat} (hM : M ≤ h) (r : List Ac) : ∃ M', M' = h + d ∧ rchL (cA d :: r) h M = rchL r h M' := by
  refine ⟨_, rfl, ?_⟩
  unfold cA
  rw [rchL, rchA, bynA, rchL, rchL, rchL, rchA, rchA, bynA, bynA, byt, if_neg ne_ex]
  congr 1
  omega
theorem cC_rch {h M d : Nat} (hM : M ≤ h) : rchL [cC d] h M = h + 1 + d := by
  unfold cC
  rw [rchL, rchL, rchA, if_neg (by decide), bynA, bynB, bynB, bynB, bynA, bynA, byt, if_neg ne_fl, rchL, rchL, rchL, rchA, rchA, bynA, bynA, byt, if_neg ne_fl, rchL, rchL, rchL, rchA, rchA, bynA, bynA, byt, if_pos rfl]
  omega
theorem cN_rch {h M : Nat} (r : List Ac) : rchL (cN_ :: r) h M = rchL r h M := by
  unfold cN_
  rw [rchL, rchA, if_pos rfl, bynA, Nat.zero_mul, Nat.add_zero]
theorem c_facts {d : Nat} (h1 : 1 ≤ d) (h2 : d ≤ 2000) : okA (cA d) = true ∧ okA (cC d) = true ∧ okA cN_ = true ∧ dptA (cA d) = 2 ∧ dptA (cC d) = 3 ∧ dptA cN_ = 2 ∧ cntA (cA d) = 3 ∧ cntA (cC d) = 5 ∧ cntA cN_ = 3 ∧ sizA (cA d) = 3 ∧ sizA (cC d) = 8 ∧ sizA cN_ = 0 := by
  have ow : okA (.write d) = true := by rw [okA, decide_eq_true h1, decide_eq_true h2]; rfl
  have ob : bare "exit" = true ∧ bare "line" = true ∧ bare "flush" = true := by decide +kernel
  refine ⟨?_, ?_, by decide +kernel, ?_, ?_, by decide +kernel, ?_, ?_, by decide +kernel, ?_, ?_, by decide +kernel⟩
  · simp only [cA, okA, okB, ob.1, decide_eq_true h1, decide_eq_true h2, Bool.and_true]
  · simp only [cC, okA, okB, ob.2.1, ob.2.2, decide_eq_true h1, decide_eq_true h2, Bool.and_true]; rfl
  · rw [cA, dptA, dptB, dptB, dptB, dptA, dptA]; rfl
  · rw [cC, dptA, dptB, dptB, dptB, dptA, dptA, dptB, dptB, dptB, dptA, dptA]; rfl
  · rw [cA, cntA, cntB, cntB, cntB, cntA, cntA]
  · rw [cC, cntA, cntB, cntB, cntB, cntA, cntA, cntB, cntB, cntB, cntA, cntA]
  · rw [cA, sizA, sizB, sizB, sizB, sizA, sizA]
  · rw [cC, sizA, sizB, sizB, sizB, sizA, sizA, sizB, sizB, sizB, sizA, sizA]
theorem mulW_go {a : Nat} {h : AH} {Q : KD} (q : Q (.tup (encs (hd_ a))) h) : dMulTA (.tup [.tup [.str "write", .int (a : Nat)]]) (.int ((if 0 < a then 1 else 0 : Nat) : Int)) h Q := by
  refine ⟨_, _, rfl, rfl, Nat.zero_lt_one, by split <;> decide, by split <;> decide, by show 1 ≤ 1000; decide, ?_⟩
  have e : (List.replicate (((if 0 < a then 1 else 0 : Nat) : Int).toNat) [D.tup [.str "write", .int (a : Nat)]]).flatten = encs (hd_ a) := by
    rw [Int.toNat_natCast]
    unfold hd_
    by_cases c : 0 < a
    · rw [if_pos c, if_pos c, encs, encs, enc]; rfl
    · rw [if_neg c, if_neg c, encs]; rfl
  rw [e]
  exact q
theorem gt_go {a : Nat} {h : AH} {Q : KD} (q : Q (.int ((if 0 < a then 1 else 0 : Nat) : Int)) h) : dCmpI (fun i j => decide (j < i)) (.int (a : Nat)) (.int 0) h (fun x h1 => dInt [x] h1 Q) := by
  show Q (.int (if decide ((0 : Int) < (a : Int)) = true then 1 else 0)) h
  have e : (if decide ((0 : Int) < (a : Int)) = true then (1 : Int) else 0) = ((if 0 < a then 1 else 0 : Nat) : Int) := by
    by_cases c : 0 < a
    · rw [if_pos c, if_pos (decide_eq_true (by omega))]; rfl
    · rw [if_neg c, if_neg (by rw [decide_eq_false (by omega)]; decide)]; rfl
  rw [e]; exact q
theorem p__law_bytes_right (z : Ad) : ∀ ds h Q X, S__law_bytes_right z ds h Q X → w__law_bytes_right z (endsD Q X) (startD 11 ds) h := by
  rintro ds h Q X ⟨n, p, f, rfl, tb, I, hn, q⟩
  show w__law_bytes_right z (endsD Q X) [some (.ref p), some (.bl f), none, none, none, none, none, none, none, none, none] h
  have tp := tb.ne I
  replace I := Inv0.start I
  unfold w__law_bytes_right
  try dsimp only
  rw [u_seq, u_par]
  simp only [u_asg, u_gN, u_ret, u_retN, u_skip, u_expr, u_ifs, u_c, u_op, u_neg, u_test, u_and, u_or, u_not, u_if, u_nil, u_cons, u_tup, u_lst, u_callP, u_call, u_b, u_chain, u_andV, u_addI, u_subI, u_mulI, u_divI, u_modI, u_powI, u_cmpI, u_eqI, u_eqS, u_eqB, u_abs, u_intI, u_intB, u_newT, u_newF, u_isN, u_notN, wVar, List.set_cons_zero, List.set_cons_succ, List.getElem?_cons_zero, List.getElem?_cons_succ, List.length_cons, List.length_nil, u_lc, u_for, u_r1, u_r2, u_r3, u_num, u_notV, u_yes, u_w0, u_w1, u_dput, u_get2, u_dget, u_prop, u_fld, u_setF, u_make, u_makeS, u_met, u_calO, u_orT, u_tupIt, u_dc, u_maxDd, u_dnew, u_tupi, ix_p0, ix_p1, wSl, woNone, woSome]
  refine ⟨trivial, draw_go I (by omega) (div_ok (by decide) (by decide)) fun v o v0 v1 I _ => ?_⟩
  generalize up h p o = g at I ⊢
  obtain ⟨t, rfl⟩ := Int.eq_ofNat_of_zero_le v0
  try simp only [u_asg, u_gN, u_ret, u_retN, u_skip, u_expr, u_ifs, u_c, u_op, u_neg, u_test, u_and, u_or, u_not, u_if, u_nil, u_cons, u_tup, u_lst, u_callP, u_call, u_b, u_chain, u_andV, u_addI, u_subI, u_mulI, u_divI, u_modI, u_powI, u_cmpI, u_eqI, u_eqS, u_eqB, u_abs, u_intI, u_intB, u_newT, u_newF, u_isN, u_notN, wVar, List.set_cons_zero, List.set_cons_succ, List.getElem?_cons_zero, List.getElem?_cons_succ, List.length_cons, List.length_nil, u_lc, u_for, u_r1, u_r2, u_r3, u_num, u_notV, u_yes, u_w0, u_w1, u_dput, u_get2, u_dget, u_prop, u_fld, u_setF, u_make, u_makeS, u_met, u_calO, u_orT, u_tupIt, u_dc, u_maxDd, u_dnew, u_tupi, ix_p0, ix_p1, wSl, woNone, woSome]
  refine ⟨trivial, draw_go I (by omega) (div_ok (by decide) (by decide)) fun v o v2 v3 I _ => ?_⟩
  generalize up g p o = g at I ⊢
  obtain ⟨s, rfl⟩ := Int.eq_ofNat_of_zero_le v2
  refine ⟨_, _, rfl, ?_⟩
  try simp only [List.set_cons_zero, List.set_cons_succ]
  rw [show (1 : Int) + (s : Nat) = ((s + 1 : Nat) : Int) by omega]
  have ls : 1 ≤ s + 1 ∧ s + 1 ≤ 60 := by omega
  generalize s + 1 = s at ls ⊢
  have ht : t ≤ 29 := by omega
  have ts : t * s ≤ 29 * 60 := Nat.mul_le_mul ht ls.2
  obtain ⟨l, hl⟩ : ∃ l, t * s + l = 2000 := ⟨2000 - t * s, by omega⟩
  have z1 : ∀ (n : Nat), n ≤ 1000 → n ≤ sizeLine := fun n h => Nat.le_trans h (by decide)
  ((try dsimp only); rw [u_seq]; (try simp only [u_asg, u_gN, u_ret, u_retN, u_skip, u_expr, u_ifs, u_c, u_op, u_neg, u_test, u_and, u_or, u_not, u_if, u_nil, u_cons, u_tup, u_lst, u_callP, u_call, u_b, u_chain, u_andV, u_addI, u_subI, u_mulI, u_divI, u_modI, u_powI, u_cmpI, u_eqI, u_eqS, u_eqB, u_abs, u_intI, u_intB, u_newT, u_newF, u_isN, u_notN, wVar, List.set_cons_zero, List.set_cons_succ, List.getElem?_cons_zero, List.getElem?_cons_succ, List.length_cons, List.length_nil, u_lc, u_for, u_r1, u_r2, u_r3, u_num, u_notV, u_yes, u_w0, u_w1, u_dput, u_get2, u_dget, u_prop, u_fld, u_setF, u_make, u_makeS, u_met, u_calO, u_orT, u_tupIt, u_dc, u_maxDd, u_dnew, u_tupi, ix_p0, ix_p1, wSl, woNone, woSome]))
  refine ⟨.inl ⟨by omega, by omega⟩, ?_⟩
  rw [show (2000 : Int) - (t : Int) * (s : Int) = ((l : Nat) : Int) by rw [← Int.natCast_mul]; omega]
  ((try dsimp only); rw [u_seq]; (try simp only [u_asg, u_gN, u_ret, u_retN, u_skip, u_expr, u_ifs, u_c, u_op, u_neg, u_test, u_and, u_or, u_not, u_if, u_nil, u_cons, u_tup, u_lst, u_callP, u_call, u_b, u_chain, u_andV, u_addI, u_subI, u_mulI, u_divI, u_modI, u_powI, u_cmpI, u_eqI, u_eqS, u_eqB, u_abs, u_intI, u_intB, u_newT, u_newF, u_isN, u_notN, wVar, List.set_cons_zero, List.set_cons_succ, List.getElem?_cons_zero, List.getElem?_cons_succ, List.length_cons, List.length_nil, u_lc, u_for, u_r1, u_r2, u_r3, u_num, u_notV, u_yes, u_w0, u_w1, u_dput, u_get2, u_dget, u_prop, u_fld, u_setF, u_make, u_makeS, u_met, u_calO, u_orT, u_tupIt, u_dc, u_maxDd, u_dnew, u_tupi, ix_p0, ix_p1, wSl, woNone, woSome]))
  refine ⟨trivial, draw_go I (by omega) (div_ok (by omega) (by omega)) fun v o v4 v5 I _ => ?_⟩
  generalize up g p o = g at I ⊢
  obtain ⟨a, rfl⟩ := Int.eq_ofNat_of_zero_le v4
  have al : a < l := by omega
  have tb1 : Tb z g := tb.inv I tp
  try dsimp only
  rw [u_seq, u_asg, u_op, u_op]
  simp only [u_cons, u_nil, u_tup, u_op, u_c, wVar, List.getElem?_cons_zero, List.getElem?_cons_succ, u_b]
  obtain ⟨k1, k2, k3, k4, k5, k6⟩ := bb_facts (a := a) (t := t) (s := s) (by omega) (by omega) (by omega) (by omega)
  have hB : encs (hd_ a) ++ [D.tup [.str "repeat", .int (t : Nat), .tup [D.tup [.str "write", .int (s : Nat)], .tup [.str "quit"]]]] = encs (bb a t s) := by
    rw [bb, encs_app, encs, enc, encs, encs, encs, enc, enc]
    rfl
  refine ⟨z1 2 (by decide), z1 1 (by decide), gt_go (mulW_go ⟨z1 2 (by decide), z1 1 (by decide), z1 2 (by decide), z1 3 (by decide), z1 1 (by decide), addT_go ?_ ?_⟩)⟩
  · rw [encs_len]
    unfold hd_
    split
    · show 1 + 1 ≤ 16000; decide
    · show 0 + 1 ≤ 16000; decide
  rw [hB, u_gN]
  dsimp only [List.set_cons_zero, List.set_cons_succ]
  generalize bb a t s = B at *
  generalize he : (if 0 < a then 1 else 0 : Nat) = e at *
  have e1 : e ≤ 1 := by rw [← he]; split <;> omega
  have lB : (encs B).length ≤ 2 := by rw [encs_len]; exact k5
  rw [u_seq, u_asg]
  simp only [u_cons, u_nil, u_tup, u_op, u_c, wVar, List.getElem?_cons_zero, List.getElem?_cons_succ, u_subI]
  refine ⟨z1 1 (by decide), z1 2 (by decide), z1 2 (by decide), z1 2 (by decide), ?_⟩
  obtain ⟨d, hd⟩ : ∃ d, a + d = l := ⟨l - a, by omega⟩
  rw [show ((l : Int) - (a : Int)) = ((d : Nat) : Int) by omega, u_gN]
  dsimp only [List.set_cons_zero, List.set_cons_succ]
  obtain ⟨a1, a2, a3, b1, b2, b3, c1, c2, c3, s1, s2, s3⟩ := c_facts (d := d) (by omega) (by omega)
  have cE : D.tup [.str "fork", .tup [.tup [.str "exit"], .tup [.str "write", .int (d : Nat)]]] = enc (cA d) := by rw [cA, enc, encs, encs, encs, enc, enc]
  rw [cE, u_seq, u_asg, u_op]
  simp only [u_cons, u_nil, u_tup, u_op, u_c, wVar, List.getElem?_cons_zero, List.getElem?_cons_succ, u_b, u_subI]
  refine gt_go ?_
  rw [he]
  refine ⟨.inl ⟨by omega, by omega⟩, ?_⟩
  try simp only [u_addI]
  rw [show (e : Int) + 2 * (t : Int) = ((e + 2 * t : Nat) : Int) by omega, u_gN]
  dsimp only [List.set_cons_zero, List.set_cons_succ]
  generalize hm : e + 2 * t = m
  have ask : ∀ (c : List Ac) (g : AH) (Q2 : KD) (X2 : KX), okB c = true → dptB c ≤ 3 → cntB c ≤ 10 → Tb z g → (∀ M, M ≤ a + t * s → rchB (B ++ c) = rchL c (a + t * s) M → sizB (B ++ c) = m + sizB c → ∀ g2, Sub g g2 → Q2 (outB (B ++ c)) g2) → S__law_told z [.tup (encs B ++ encs c), .bl f] g Q2 X2 := fun c g Q2 X2 oc dc nc tg q2 => by
    rw [← encs_app]
    obtain ⟨M, hM, eM⟩ := k6 c
    exact told_go (by rw [okB_app, k1, oc]; rfl) (by rw [dptB_app]; omega) (by rw [cntB_app]; omega) tg fun g2 sg => q2 M hM eM (by rw [k4 c, hm]) g2 sg
  have o1 : okB [cA d] = true := by rw [okB, a1, okB]; rfl
  have d1 : dptB [cA d] ≤ 3 := by rw [dptB, dptB]; omega
  have n1 : cntB [cA d] ≤ 10 := by rw [cntB, cntB]; omega
  have E1 : [enc (cA d)] = encs [cA d] := by rw [encs, encs]
  ((try dsimp only); rw [u_seq]; (try simp only [u_asg, u_gN, u_ret, u_retN, u_skip, u_expr, u_ifs, u_c, u_op, u_neg, u_test, u_and, u_or, u_not, u_if, u_nil, u_cons, u_tup, u_lst, u_callP, u_call, u_b, u_chain, u_andV, u_addI, u_subI, u_mulI, u_divI, u_modI, u_powI, u_cmpI, u_eqI, u_eqS, u_eqB, u_abs, u_intI, u_intB, u_newT, u_newF, u_isN, u_notN, wVar, List.set_cons_zero, List.set_cons_succ, List.getElem?_cons_zero, List.getElem?_cons_succ, List.length_cons, List.length_nil, u_lc, u_for, u_r1, u_r2, u_r3, u_num, u_notV, u_yes, u_w0, u_w1, u_dput, u_get2, u_dget, u_prop, u_fld, u_setF, u_make, u_makeS, u_met, u_calO, u_orT, u_tupIt, u_dc, u_maxDd, u_dnew, u_tupi, ix_p0, ix_p1, wSl, woNone, woSome]))
  rw [E1]
  refine ⟨by decide, addT_go (by rw [encs_len]; show _ + 1 ≤ 16000; omega) ⟨trivial, ask _ _ _ _ o1 d1 n1 tb1 fun M hM eM eS g2 sg => ?_⟩⟩
  obtain ⟨M2, hM2, eM2⟩ := cA_rch (h := a + t * s) (M := M) (d := d) hM []
  rw [eM2, rchL] at eM
  rw [sizB, sizB] at eS
  rw [out_in (s := m + 3) (r := 2000) (by omega) (by omega) (by omega) (by omega)]
  have two : ∀ (x y : Int) (u v : Nat) (f : Bool → Bool) (g : AH) (Q2 : KD), x = (u : Int) → y = (v : Int) → Q2 (.bl (f true)) g → dEq f (.lst [.int (u : Nat), .int (v : Nat)]) (.lst [.int x, .int y]) g Q2 := fun x y u v f g Q2 e1 e2 q2 => by
    subst e1 e2
    exact same_lst (fl_two _ _) (by decide) q2
  refine ⟨by decide, two _ _ _ _ _ _ _ (by omega) rfl ?_⟩
  dsimp only
  rw [if_neg (by decide)]
  replace I := Inv0.ext I sg
  replace tb1 := tb1.sub sg
  have o2 : okB [cA d, .bare "line"] = true := by rw [okB, a1, okB, okB]; decide +kernel
  have d2 : dptB [cA d, .bare "line"] ≤ 3 := by rw [dptB, dptB, dptB, dptA]; omega
  have n2 : cntB [cA d, .bare "line"] ≤ 10 := by rw [cntB, cntB, cntB, cntA]; omega
  have E2 : [enc (cA d), .tup [.str "line"]] = encs [cA d, .bare "line"] := by rw [encs, encs, encs, enc]
  ((try dsimp only); rw [u_seq]; (try simp only [u_asg, u_gN, u_ret, u_retN, u_skip, u_expr, u_ifs, u_c, u_op, u_neg, u_test, u_and, u_or, u_not, u_if, u_nil, u_cons, u_tup, u_lst, u_callP, u_call, u_b, u_chain, u_andV, u_addI, u_subI, u_mulI, u_divI, u_modI, u_powI, u_cmpI, u_eqI, u_eqS, u_eqB, u_abs, u_intI, u_intB, u_newT, u_newF, u_isN, u_notN, wVar, List.set_cons_zero, List.set_cons_succ, List.getElem?_cons_zero, List.getElem?_cons_succ, List.length_cons, List.length_nil, u_lc, u_for, u_r1, u_r2, u_r3, u_num, u_notV, u_yes, u_w0, u_w1, u_dput, u_get2, u_dget, u_prop, u_fld, u_setF, u_make, u_makeS, u_met, u_calO, u_orT, u_tupIt, u_dc, u_maxDd, u_dnew, u_tupi, ix_p0, ix_p1, wSl, woNone, woSome]))
  rw [E2]
  refine ⟨by decide, by decide, addT_go (by rw [encs_len]; show _ + 2 ≤ 16000; omega) ⟨trivial, ask _ _ _ _ o2 d2 n2 tb1 fun M hM eM eS g3 sg => ?_⟩⟩
  obtain ⟨M2, hM2, eM2⟩ := cA_rch (h := a + t * s) (M := M) (d := d) hM [.bare "line"]
  rw [eM2, rchL, rchL, rchA, bynA, byt, if_pos rfl] at eM
  rw [sizB, sizB, sizB, sizA] at eS
  rw [out_in (s := m + 4) (r := 2000) (by omega) (by omega) (by omega) (by omega)]
  refine ⟨.inl ⟨by omega, by omega⟩, max_go (r := 2000) ?_ ⟨by decide, two _ _ _ _ _ _ _ (by omega) rfl ?_⟩⟩
  · rw [if_neg]
    rw [← Int.natCast_mul]
    omega
  dsimp only
  rw [if_neg (by decide)]
  replace I := Inv0.ext I sg
  replace tb1 := tb1.sub sg
  have cC3 : D.tup [.str "repeat", .int 2, .tup [.tup [.str "fork", .tup [.tup [.str "line"], .tup [.str "write", .int (d : Nat)]]], .tup [.str "flush"]]] = enc (cC d) := by
    (simp only [cC, enc, encs]; first | done | rfl)
  rw [u_seq, u_asg]
  simp only [u_cons, u_nil, u_tup, u_op, u_c, wVar, List.getElem?_cons_zero, List.getElem?_cons_succ, u_subI]
  rw [show ((l : Int) - (a : Int)) = ((d : Nat) : Int) by omega, cC3]
  refine ⟨z1 1 (by decide), z1 2 (by decide), z1 2 (by decide), z1 2 (by decide), z1 1 (by decide), z1 2 (by decide), z1 3 (by decide), ?_⟩
  rw [u_gN]
  dsimp only [List.set_cons_zero, List.set_cons_succ]
  have o3 : okB [cC d] = true := by rw [okB, a2, okB]; rfl
  have d3 : dptB [cC d] ≤ 3 := by rw [dptB, dptB]; omega
  have n3 : cntB [cC d] ≤ 10 := by rw [cntB, cntB]; omega
  have E3 : [enc (cC d)] = encs [cC d] := by rw [encs, encs]
  ((try dsimp only); rw [u_seq]; (try simp only [u_asg, u_gN, u_ret, u_retN, u_skip, u_expr, u_ifs, u_c, u_op, u_neg, u_test, u_and, u_or, u_not, u_if, u_nil, u_cons, u_tup, u_lst, u_callP, u_call, u_b, u_chain, u_andV, u_addI, u_subI, u_mulI, u_divI, u_modI, u_powI, u_cmpI, u_eqI, u_eqS, u_eqB, u_abs, u_intI, u_intB, u_newT, u_newF, u_isN, u_notN, wVar, List.set_cons_zero, List.set_cons_succ, List.getElem?_cons_zero, List.getElem?_cons_succ, List.length_cons, List.length_nil, u_lc, u_for, u_r1, u_r2, u_r3, u_num, u_notV, u_yes, u_w0, u_w1, u_dput, u_get2, u_dget, u_prop, u_fld, u_setF, u_make, u_makeS, u_met, u_calO, u_orT, u_tupIt, u_dc, u_maxDd, u_dnew, u_tupi, ix_p0, ix_p1, wSl, woNone, woSome]))
  rw [E3]
  refine ⟨by decide, addT_go (by rw [encs_len]; show _ + 1 ≤ 16000; omega) ⟨trivial, ask _ _ _ _ o3 d3 n3 tb1 fun M hM eM eS g4 sg => ?_⟩⟩
  rw [cC_rch hM] at eM
  rw [sizB, sizB] at eS
  rw [out_long (r := 2001) (by omega) (by omega) (by omega)]
  refine ⟨by decide, same_tup (fl_lng _) (by decide) ?_⟩
  dsimp only
  rw [if_neg (by decide)]
  replace I := Inv0.ext I sg
  replace tb1 := tb1.sub sg
  have cN4 : D.tup [.str "repeat", .int 0, .tup [.tup [.str "write", .int 2000], .tup [.str "write", .int 2000]]] = enc cN_ := by
    (simp only [cN_, enc, encs]; first | done | rfl)
  have o4 : okB [cN_, cA d] = true := by rw [okB, a3, okB, a1, okB]; rfl
  have d4 : dptB [cN_, cA d] ≤ 3 := by rw [dptB, dptB, dptB]; omega
  have n4 : cntB [cN_, cA d] ≤ 10 := by rw [cntB, cntB, cntB]; omega
  have E4 : [enc cN_, enc (cA d)] = encs [cN_, cA d] := by rw [encs, encs, encs]
  ((try dsimp only); rw [u_seq]; (try simp only [u_asg, u_gN, u_ret, u_retN, u_skip, u_expr, u_ifs, u_c, u_op, u_neg, u_test, u_and, u_or, u_not, u_if, u_nil, u_cons, u_tup, u_lst, u_callP, u_call, u_b, u_chain, u_andV, u_addI, u_subI, u_mulI, u_divI, u_modI, u_powI, u_cmpI, u_eqI, u_eqS, u_eqB, u_abs, u_intI, u_intB, u_newT, u_newF, u_isN, u_notN, wVar, List.set_cons_zero, List.set_cons_succ, List.getElem?_cons_zero, List.getElem?_cons_succ, List.length_cons, List.length_nil, u_lc, u_for, u_r1, u_r2, u_r3, u_num, u_notV, u_yes, u_w0, u_w1, u_dput, u_get2, u_dget, u_prop, u_fld, u_setF, u_make, u_makeS, u_met, u_calO, u_orT, u_tupIt, u_dc, u_maxDd, u_dnew, u_tupi, ix_p0, ix_p1, wSl, woNone, woSome]))
  rw [cN4]
  refine ⟨by decide, by decide, by decide, by decide, ?_⟩
  rw [E4]
  refine ⟨by decide, addT_go (by rw [encs_len]; show _ + 2 ≤ 16000; omega) ⟨trivial, ask _ _ _ _ o4 d4 n4 tb1 fun M hM eM eS g5 sg => ?_⟩⟩
  rw [cN_rch] at eM
  obtain ⟨M4, hM4, eM4⟩ := cA_rch (h := a + t * s) (M := M) (d := d) hM []
  rw [eM4, rchL] at eM
  rw [sizB, sizB, sizB] at eS
  rw [out_in (s := m + 3) (r := 2000) (by omega) (by omega) (by omega) (by omega)]
  exact ⟨by decide, two _ _ _ _ _ _ _ (by omega) rfl (fin_r q (Inv0.ext I sg) (by omega))⟩
end K03
namespace K03
open PySem PySem.Spec L2 C8 DL PK F1 PX
theorem p_law (z : Ad) : ∀ ds h Q X, S_law z ds h Q X → w_law z (endsD Q X) (startD 3 ds) h := by
  rintro ds h Q X ⟨js, rfl, tb, q⟩
  show w_law z (endsD Q X) [some (.lk (js.map D.int)), none, none] h
  unfold w_law
  ((try dsimp only); rw [u_seq]; (try simp only [u_asg, u_gN, u_ret, u_retN, u_skip, u_expr, u_ifs, u_c, u_op, u_neg, u_test, u_and, u_or, u_not, u_if, u_nil, u_cons, u_tup, u_lst, u_callP, u_call, u_b, u_chain, u_andV, u_addI, u_subI, u_mulI, u_divI, u_modI, u_powI, u_cmpI, u_eqI, u_eqS, u_eqB, u_abs, u_intI, u_intB, u_newT, u_newF, u_isN, u_notN, wVar, List.set_cons_zero, List.set_cons_succ, List.getElem?_cons_zero, List.getElem?_cons_succ, List.length_cons, List.length_nil, u_lc, u_for, u_r1, u_r2, u_r3, u_num, u_notV, u_yes, u_w0, u_w1, u_dput, u_get2, u_dget, u_prop, u_fld, u_setF, u_make, u_makeS, u_met, u_calO, u_orT, u_tupIt, u_dc, u_maxDd, u_dnew, u_tupi, ix_p0, ix_p1, wSl, woNone, woSome]))
  refine ⟨trivial, js, rfl, fun p o hp r0 => ?_⟩
  have tp : z.t0 ≠ p := fun e => (by unfold Tb at tb; rw [← e, tb] at hp; cases hp)
  have tb : Tb z (up h p o) := by unfold Tb; rw [up_ne tp]; exact tb
  have I : PenAt 0 (up h p o) p := ⟨o, up_same, r0⟩
  generalize up h p o = h at I tb ⊢
  replace I := Inv0.start I
  refine seq_go (fun ρ h' => ∃ a2, ρ = [some (.lk (js.map D.int)), some (.ref p), a2] ∧ Inv0 h p 200 h') (fun K k => ?_) ?_
  · simp only [u_asg, u_gN, u_ret, u_retN, u_skip, u_expr, u_ifs, u_c, u_op, u_neg, u_test, u_and, u_or, u_not, u_if, u_nil, u_cons, u_tup, u_lst, u_callP, u_call, u_b, u_chain, u_andV, u_addI, u_subI, u_mulI, u_divI, u_modI, u_powI, u_cmpI, u_eqI, u_eqS, u_eqB, u_abs, u_intI, u_intB, u_newT, u_newF, u_isN, u_notN, wVar, List.set_cons_zero, List.set_cons_succ, List.getElem?_cons_zero, List.getElem?_cons_succ, List.length_cons, List.length_nil, u_lc, u_for, u_r1, u_r2, u_r3, u_num, u_notV, u_yes, u_w0, u_w1, u_dput, u_get2, u_dget, u_prop, u_fld, u_setF, u_make, u_makeS, u_met, u_calO, u_orT, u_tupIt, u_dc, u_maxDd, u_dnew, u_tupi, ix_p0, ix_p1, wSl, woNone, woSome]
    refine ⟨by decide, ?_⟩
    refine loop_go (fun i ρ h' => ∃ a2, ρ = [some (.lk (js.map D.int)), some (.ref p), a2] ∧ Inv0 h p (100 * i) h') ⟨_, rfl, by simpa using I⟩ (fun _ _ _ _ => trivial) ?_ ?_
    · rintro i x _ g K9 hi ⟨a2, rfl, I⟩ k9
      obtain ⟨f, rfl⟩ : ∃ f, x = .bl f := by
        have := List.mem_of_getElem? hi
        have : x = .bl true ∨ x = .bl false := by simpa using this
        rcases this with rfl | rfl
        · exact ⟨_, rfl⟩
        · exact ⟨_, rfl⟩
      have li := (List.getElem?_eq_some_iff.mp hi).1
      have li : i < 2 := li
      rw [u_gN]
      dsimp only [List.set_cons_zero, List.set_cons_succ]
      have ask : ∀ {Q2 : KD} {X2 : KX} {n : Int} {g : AH}, Inv0 h p n g → n < 900000 → (∀ g2, Inv0 h p (n + 20) g2 → Q2 (.bl true) g2) → S_right z [.ref p, .bl f] g Q2 X2 := fun {Q2 X2 n g} I hn q2 => ⟨n, p, f, rfl, tb.inv I tp, I.pen, hn, fun g2 I2 => q2 g2 (Inv0.trans I I2)⟩
      ((try dsimp only); rw [u_seq]; (try simp only [u_asg, u_gN, u_ret, u_retN, u_skip, u_expr, u_ifs, u_c, u_op, u_neg, u_test, u_and, u_or, u_not, u_if, u_nil, u_cons, u_tup, u_lst, u_callP, u_call, u_b, u_chain, u_andV, u_addI, u_subI, u_mulI, u_divI, u_modI, u_powI, u_cmpI, u_eqI, u_eqS, u_eqB, u_abs, u_intI, u_intB, u_newT, u_newF, u_isN, u_notN, wVar, List.set_cons_zero, List.set_cons_succ, List.getElem?_cons_zero, List.getElem?_cons_succ, List.length_cons, List.length_nil, u_lc, u_for, u_r1, u_r2, u_r3, u_num, u_notV, u_yes, u_w0, u_w1, u_dput, u_get2, u_dget, u_prop, u_fld, u_setF, u_make, u_makeS, u_met, u_calO, u_orT, u_tupIt, u_dc, u_maxDd, u_dnew, u_tupi, ix_p0, ix_p1, wSl, woNone, woSome]))
      refine ⟨trivial, ask I (by omega) fun g I => ?_⟩
      simp only [Bool.not_true, Bool.false_eq_true, if_false]
      refine ⟨trivial, ask I (by omega) fun g I => ?_⟩
      simp only [Bool.not_true, Bool.false_eq_true, if_false]
      ((try dsimp only); rw [u_seq]; (try simp only [u_asg, u_gN, u_ret, u_retN, u_skip, u_expr, u_ifs, u_c, u_op, u_neg, u_test, u_and, u_or, u_not, u_if, u_nil, u_cons, u_tup, u_lst, u_callP, u_call, u_b, u_chain, u_andV, u_addI, u_subI, u_mulI, u_divI, u_modI, u_powI, u_cmpI, u_eqI, u_eqS, u_eqB, u_abs, u_intI, u_intB, u_newT, u_newF, u_isN, u_notN, wVar, List.set_cons_zero, List.set_cons_succ, List.getElem?_cons_zero, List.getElem?_cons_succ, List.length_cons, List.length_nil, u_lc, u_for, u_r1, u_r2, u_r3, u_num, u_notV, u_yes, u_w0, u_w1, u_dput, u_get2, u_dget, u_prop, u_fld, u_setF, u_make, u_makeS, u_met, u_calO, u_orT, u_tupIt, u_dc, u_maxDd, u_dnew, u_tupi, ix_p0, ix_p1, wSl, woNone, woSome]))
      refine ⟨trivial, ask I (by omega) fun g I => ?_⟩
      simp only [Bool.not_true, Bool.false_eq_true, if_false]
      try simp only [u_asg, u_gN, u_ret, u_retN, u_skip, u_expr, u_ifs, u_c, u_op, u_neg, u_test, u_and, u_or, u_not, u_if, u_nil, u_cons, u_tup, u_lst, u_callP, u_call, u_b, u_chain, u_andV, u_addI, u_subI, u_mulI, u_divI, u_modI, u_powI, u_cmpI, u_eqI, u_eqS, u_eqB, u_abs, u_intI, u_intB, u_newT, u_newF, u_isN, u_notN, wVar, List.set_cons_zero, List.set_cons_succ, List.getElem?_cons_zero, List.getElem?_cons_succ, List.length_cons, List.length_nil, u_lc, u_for, u_r1, u_r2, u_r3, u_num, u_notV, u_yes, u_w0, u_w1, u_dput, u_get2, u_dget, u_prop, u_fld, u_setF, u_make, u_makeS, u_met, u_calO, u_orT, u_tupIt, u_dc, u_maxDd, u_dnew, u_tupi, ix_p0, ix_p1, wSl, woNone, woSome]
      refine ⟨trivial, ask I (by omega) fun g I => ?_⟩
      simp only [Bool.not_true, Bool.false_eq_true, if_false]
      refine ⟨trivial, ask I (by omega) fun g I => ?_⟩
      simp only [Bool.not_true, Bool.false_eq_true, if_false]
      exact k9 _ _ ⟨_, rfl, I.mono (by omega)⟩
    · rintro _ g ⟨a2, rfl, I⟩
      exact k _ _ ⟨_, rfl, I.mono (by show (100 : Int) * (2 : Nat) ≤ 200; decide)⟩
  · rintro _ g ⟨a2, rfl, I⟩
    simp only [u_asg, u_gN, u_ret, u_retN, u_skip, u_expr, u_ifs, u_c, u_op, u_neg, u_test, u_and, u_or, u_not, u_if, u_nil, u_cons, u_tup, u_lst, u_callP, u_call, u_b, u_chain, u_andV, u_addI, u_subI, u_mulI, u_divI, u_modI, u_powI, u_cmpI, u_eqI, u_eqS, u_eqB, u_abs, u_intI, u_intB, u_newT, u_newF, u_isN, u_notN, wVar, List.set_cons_zero, List.set_cons_succ, List.getElem?_cons_zero, List.getElem?_cons_succ, List.length_cons, List.length_nil, u_lc, u_for, u_r1, u_r2, u_r3, u_num, u_notV, u_yes, u_w0, u_w1, u_dput, u_get2, u_dget, u_prop, u_fld, u_setF, u_make, u_makeS, u_met, u_calO, u_orT, u_tupIt, u_dc, u_maxDd, u_dnew, u_tupi, ix_p0, ix_p1, wSl, woNone, woSome]
    have e : D.tup [.tup [.str "write", .int 2000], .tup [.str "line"]] = .tup (encs [.write 2000, .bare "line"]) := by rw [encs, encs, encs, enc, enc]; rfl
    rw [e]
    refine ⟨by decide, by decide, by decide, trivial, told_go (by decide +kernel) (by decide +kernel) (by decide +kernel) (tb.inv I tp) fun g2 sg => ?_⟩
    rw [show outB [.write 2000, .bare "line"] = .tup [.str "long", .int (2001 : Nat)] from out_long (by decide +kernel) (by decide +kernel) (by decide)]
    exact ⟨by decide, same_tup (fl_lng _) (by decide) (fin_of (q _))⟩
end K03
namespace K03
open PySem PySem.Spec L2 C8 DL PK PK F1 PX PyProof.Rows
theorem sc_InvalidProgram___init__ : FnScope ["self", "place"] ["self", "place"] (defScope s_InvalidProgram___init__) := ⟨rfl, rfl, rfl, by decide +kernel, rfl, by decide +kernel, by decide +kernel⟩
theorem sc_TooLarge___init__ : FnScope ["self", "points"] ["self", "points"] (defScope s_TooLarge___init__) := ⟨rfl, rfl, rfl, by decide +kernel, rfl, by decide +kernel, by decide +kernel⟩
theorem sc_TooLong___init__ : FnScope ["self", "length"] ["self", "length"] (defScope s_TooLong___init__) := ⟨rfl, rfl, rfl, by decide +kernel, rfl, by decide +kernel, by decide +kernel⟩
theorem sc_is_integer : FnScope PK.N_is_integer ["value"] (defScope s_is_integer) := ⟨rfl, rfl, rfl, by decide +kernel, rfl, by decide +kernel, by decide +kernel⟩
theorem sc_is_between : FnScope PK.N_is_between ["value", "least", "most"] (defScope s_is_between) := ⟨rfl, rfl, rfl, by decide +kernel, rfl, by decide +kernel, by decide +kernel⟩
theorem sc_is_head : FnScope PK.N_is_head ["value"] (defScope s_is_head) := ⟨rfl, rfl, rfl, by decide +kernel, rfl, by decide +kernel, by decide +kernel⟩
theorem sc_inner_of : FnScope PK.N_inner_of ["action"] (defScope s_inner_of) := ⟨rfl, rfl, rfl, by decide +kernel, rfl, by decide +kernel, by decide +kernel⟩
theorem sc_bytes_of : FnScope PK.N_bytes_of ["action"] (defScope s_bytes_of) := ⟨rfl, rfl, rfl, by decide +kernel, rfl, by decide +kernel, by decide +kernel⟩
theorem sc_wrong_in : FnScope N_wrong_in ["body", "place", "count"] (defScope s_wrong_in) := ⟨rfl, rfl, rfl, by decide +kernel, rfl, by decide +kernel, by decide +kernel⟩
theorem sc_first_wrong : FnScope N_first_wrong ["body"] (defScope s_first_wrong) := ⟨rfl, rfl, rfl, by decide +kernel, rfl, by decide +kernel, by decide +kernel⟩
theorem sc_size_in : FnScope PK.N_size_in ["body"] (defScope s_size_in) := ⟨rfl, rfl, rfl, by decide +kernel, rfl, by decide +kernel, by decide +kernel⟩
theorem sc_bytes_in : FnScope PK.N_bytes_in ["body"] (defScope s_bytes_in) := ⟨rfl, rfl, rfl, by decide +kernel, rfl, by decide +kernel, by decide +kernel⟩
theorem sc_reach_in : FnScope PK.N_reach_in ["body"] (defScope s_reach_in) := ⟨rfl, rfl, rfl, by decide +kernel, rfl, by decide +kernel, by decide +kernel⟩
theorem sc_Program___init__ : FnScope N_Program___init__ ["self", "actions"] (defScope s_Program___init__) := ⟨rfl, rfl, rfl, by decide +kernel, rfl, by decide +kernel, by decide +kernel⟩
theorem sc_Program_of : FnScope N_Program_of ["cls", "body"] (defScope s_Program_of) := ⟨rfl, rfl, rfl, by decide +kernel, rfl, by decide +kernel, by decide +kernel⟩
theorem sc_Program_size : FnScope PK.N_Program_size ["self"] (defScope s_Program_size) := ⟨rfl, rfl, rfl, by decide +kernel, rfl, by decide +kernel, by decide +kernel⟩
theorem sc_Program_reach : FnScope PK.N_Program_reach ["self"] (defScope s_Program_reach) := ⟨rfl, rfl, rfl, by decide +kernel, rfl, by decide +kernel, by decide +kernel⟩
theorem sc__law_pen : FnScope N__law_pen ["_law_script"] (defScope s__law_pen) := ⟨rfl, rfl, rfl, by decide +kernel, rfl, by decide +kernel, by decide +kernel⟩
theorem sc__law_draw : FnScope N__law_draw ["_law_pen_here", "_law_bound"] (defScope s__law_draw) := ⟨rfl, rfl, rfl, by decide +kernel, rfl, by decide +kernel, by decide +kernel⟩
theorem sc__law_heard : FnScope N__law_heard ["_law_ask"] (defScope s__law_heard) := ⟨rfl, rfl, rfl, by decide +kernel, rfl, by decide +kernel, by decide +kernel⟩
theorem sc__law_told : FnScope N__law_told ["_law_deeds", "_law_is_full"] (defScope s__law_told) := ⟨rfl, rfl, rfl, by decide +kernel, rfl, by decide +kernel, by decide +kernel⟩
theorem sc__law_actions_right : FnScope N__law_actions_right ["_law_pen_here", "_law_is_full"] (defScope s__law_actions_right) := ⟨rfl, rfl, rfl, by decide +kernel, rfl, by decide +kernel, by decide +kernel⟩
theorem sc__law_depth_right : FnScope N__law_depth_right ["_law_pen_here", "_law_is_full"] (defScope s__law_depth_right) := ⟨rfl, rfl, rfl, by decide +kernel, rfl, by decide +kernel, by decide +kernel⟩
theorem sc__law_points_right : FnScope N__law_points_right ["_law_pen_here", "_law_is_full"] (defScope s__law_points_right) := ⟨rfl, rfl, rfl, by decide +kernel, rfl, by decide +kernel, by decide +kernel⟩
theorem sc__law_bytes_right : FnScope N__law_bytes_right ["_law_pen_here", "_law_is_full"] (defScope s__law_bytes_right) := ⟨rfl, rfl, rfl, by decide +kernel, rfl, by decide +kernel, by decide +kernel⟩
theorem sc__law_order_right : FnScope N__law_order_right ["_law_pen_here", "_law_is_full"] (defScope s__law_order_right) := ⟨rfl, rfl, rfl, by decide +kernel, rfl, by decide +kernel, by decide +kernel⟩
theorem sc_law : FnScope N_law ["_law_script"] (defScope s_law) := ⟨rfl, rfl, rfl, by decide +kernel, rfl, by decide +kernel, by decide +kernel⟩
/-- what the module's names hold -/
structure Txt (K : PySem.W.Frag) (mg : Str → Option Value) (z : Ad) : Prop where
  k_LineProgram : Cls K z.LineProgram
  k_Program : Cls K z.Program
  n_LineProgram_held : NoAttr K z.LineProgram "held"
  n_Program_held : NoAttr K z.Program "held"
  v_LineProgram : Cst K mg "LineProgram" (.ref z.LineProgram)
  v_Program : Cst K mg "Program" (.ref z.Program)
  v_DifferentModes : Cst K mg "DifferentModes" (.ref z.DifferentModes)
  v_InvalidCapacity : Cst K mg "InvalidCapacity" (.ref z.InvalidCapacity)
  v_InvalidMode : Cst K mg "InvalidMode" (.ref z.InvalidMode)
  v_InvalidNumber : Cst K mg "InvalidNumber" (.ref z.InvalidNumber)
  v_InvalidProgram : Cst K mg "InvalidProgram" (.ref z.InvalidProgram)
  v_NoPlace : Cst K mg "NoPlace" (.ref z.NoPlace)
  v_NoPoint : Cst K mg "NoPoint" (.ref z.NoPoint)
  v_TooLarge : Cst K mg "TooLarge" (.ref z.TooLarge)
  v_TooLong : Cst K mg "TooLong" (.ref z.TooLong)
  v_TooManyProcesses : Cst K mg "TooManyProcesses" (.ref z.TooManyProcesses)
  xg_EchoError : mg "EchoError" = some (.ref z.EchoError)
  xg_SizeError : mg "SizeError" = some (.ref z.SizeError)
  xg_AbsentError : mg "AbsentError" = some (.ref z.AbsentError)
  xerr : ∀ C ∈ errs z, PySem.W.exmAny K (.ref C) [.ref z.EchoError, .ref z.SizeError, .ref z.AbsentError] = some true
  xtab : XTabOk K (xtab z)
  xf_length : ∀ C ∈ [z.TooLong], XVal K C ∧ PySem.W.findIn K (.ref C) "length" = some none
  xf_place : ∀ C ∈ [z.InvalidProgram, z.NoPlace], XVal K C ∧ PySem.W.findIn K (.ref C) "place" = some none
  xf_points : ∀ C ∈ [z.TooLarge], XVal K C ∧ PySem.W.findIn K (.ref C) "points" = some none
  xf_value : ∀ C ∈ [z.InvalidNumber, z.InvalidMode], XVal K C ∧ PySem.W.findIn K (.ref C) "value" = some none
  z_LookupError : mg "LookupError" = none
  z_OverflowError : mg "OverflowError" = none
  z_ValueError : mg "ValueError" = none
  z_abs : mg "abs" = none
  z_bool : mg "bool" = none
  z_enumerate : mg "enumerate" = none
  z_int : mg "int" = none
  z_isinstance : mg "isinstance" = none
  z_len : mg "len" = none
  z_list : mg "list" = none
  z_max : mg "max" = none
  z_min : mg "min" = none
  z_range : mg "range" = none
  z_str : mg "str" = none
  z_tuple : mg "tuple" = none
  c_BARE : Cst K mg "BARE" (.tup [(.str "line"), (.str "flush"), (.str "drop"), (.str "both"), (.str "exit"), (.str "quit")])
  c_FORK : Cst K mg "FORK" (.str "fork")
  c_LINE : Cst K mg "LINE" (.str "line")
  c_MOST_ACTIONS : Cst K mg "MOST_ACTIONS" (.int 300)
  c_MOST_BYTES : Cst K mg "MOST_BYTES" (.int 2000)
  c_MOST_BYTES_HERE : Cst K mg "MOST_BYTES_HERE" (.int 2000)
  c_MOST_DEPTH : Cst K mg "MOST_DEPTH" (.int 6)
  c_MOST_POINTS_HERE : Cst K mg "MOST_POINTS_HERE" (.int 2000)
  c_MOST_TURNS : Cst K mg "MOST_TURNS" (.int 300)
  c_REPEAT : Cst K mg "REPEAT" (.str "repeat")
  c_WRITE : Cst K mg "WRITE" (.str "write")
/-! ### the derivations -/
section
variable {P : Program} {w : World} {K : PySem.W.Frag} {mg : Str → Option Value} {base : Heap}
theorem d_is_integer {z : Ad} (T : Txt K mg z)  {f : Addr} (cdv : Value) (A : Around) (outer : List PySem.Env) (s : Shared) (H : Hp) (E : XK) (c : Cg false (cxOf (L2.CX P w) P w K mg base PK.N_is_integer "is_integer" (defScope s_is_integer) f cdv A outer s H E) E 0) :
    ASs (cxOf (L2.CX P w) P w K mg base PK.N_is_integer "is_integer" (defScope s_is_integer) f cdv A outer s H E) E (defBody s_is_integer) (PK.w_is_integer z) :=
  (ass_one (as_ret (ae_and (ae_b dIsi_ok T.z_isinstance bb_isinstance (aa_cons (ae_var 0) (aa_cons (ae_ty T.z_int bb_int) aa_nil))) (ae_one (ae_not (ae_b dIsi_ok T.z_isinstance bb_isinstance (aa_cons (ae_var 0) (aa_cons (ae_ty T.z_bool bb_bool) aa_nil))))))))
theorem d_is_between {z : Ad} (T : Txt K mg z) (C_is_integer : Cal false P w K mg base "is_integer" 1 1 [] (fun ds _ => ds) (PK.S_is_integer z)) {f : Addr} (cdv : Value) (A : Around) (outer : List PySem.Env) (s : Shared) (H : Hp) (E : XK) (c : Cg false (cxOf (L2.CX P w) P w K mg base PK.N_is_between "is_between" (defScope s_is_between) f cdv A outer s H E) E 1) :
    ASs (cxOf (L2.CX P w) P w K mg base PK.N_is_between "is_between" (defScope s_is_between) f cdv A outer s H E) E (defBody s_is_between) (PK.w_is_between z) :=
  (ass_one (as_ret (ae_and (ae_call c C_is_integer (by decide) (by decide) (aa_cons (ae_var 0) aa_nil)) (ae_one (ae_chain2 dCmpI_ok dCmpI_ok op_le op_le (ae_var 1) (ae_var 0) (ae_var 2))))))
theorem d_is_head {z : Ad} (T : Txt K mg z) (C_is_between : Cal false P w K mg base "is_between" 2 3 [] (fun ds _ => ds) (PK.S_is_between z)) {f : Addr} (cdv : Value) (A : Around) (outer : List PySem.Env) (s : Shared) (H : Hp) (E : XK) (c : Cg false (cxOf (L2.CX P w) P w K mg base PK.N_is_head "is_head" (defScope s_is_head) f cdv A outer s H E) E 2) :
    ASs (cxOf (L2.CX P w) P w K mg base PK.N_is_head "is_head" (defScope s_is_head) f cdv A outer s H E) E (defBody s_is_head) (PK.w_is_head z) :=
  (ass_cons (as_if (AW.at (aw_or (at_not (at_val (ae_b dIsi_ok T.z_isinstance bb_isinstance (aa_cons (ae_var 0) (aa_cons (ae_ty T.z_tuple bb_tuple) aa_nil))))) (aw_or (at_eq c (ae_b dLen_ok T.z_len bb_len (aa_cons (ae_var 0) aa_nil)) ae_int) (aw_or1 (at_not (at_val (ae_b dIsi_ok T.z_isinstance bb_isinstance (aa_cons (ae_ix (ae_var 0) ae_int) (aa_cons (ae_ty T.z_str bb_str) aa_nil))))))))) (ass_one (as_ret ae_bl)) ass_nil)
    (ass_cons (as_asg (ae_var 0) (ag_starT c.calm (ags_cons (ag_name 1 c.nd) (ags_star (ag_name 2 c.nd) ags_nil))))
    (ass_cons (as_if (at_in (ae_var 1) (ae_glob T.c_BARE)) (ass_one (as_ret (ae_eq c (ae_b dLen_ok T.z_len bb_len (aa_cons (ae_var 2) aa_nil)) ae_int))) ass_nil)
    (ass_cons (as_if (at_eq c (ae_var 1) (ae_glob T.c_WRITE)) (ass_one (as_ret (ae_and (ae_eq c (ae_b dLen_ok T.z_len bb_len (aa_cons (ae_var 2) aa_nil)) ae_int) (ae_one (ae_call c C_is_between (by decide) (by decide) (aa_cons (ae_ix (ae_var 2) ae_int) (aa_cons ae_int (aa_cons (ae_glob T.c_MOST_BYTES) aa_nil)))))))) ass_nil)
    (ass_cons (as_if (at_eq c (ae_var 1) (ae_glob T.c_FORK)) (ass_one (as_ret (ae_and (ae_eq c (ae_b dLen_ok T.z_len bb_len (aa_cons (ae_var 2) aa_nil)) ae_int) (ae_one (ae_b dIsi_ok T.z_isinstance bb_isinstance (aa_cons (ae_ix (ae_var 2) ae_int) (aa_cons (ae_ty T.z_tuple bb_tuple) aa_nil))))))) ass_nil)
    (ass_one (as_ret (ae_and (ae_eq c (ae_var 1) (ae_glob T.c_REPEAT)) (ae_and (ae_eq c (ae_b dLen_ok T.z_len bb_len (aa_cons (ae_var 2) aa_nil)) ae_int) (ae_and (ae_call c C_is_between (by decide) (by decide) (aa_cons (ae_ix (ae_var 2) ae_int) (aa_cons ae_int (aa_cons (ae_glob T.c_MOST_TURNS) aa_nil)))) (ae_one (ae_b dIsi_ok T.z_isinstance bb_isinstance (aa_cons (ae_ix (ae_var 2) ae_int) (aa_cons (ae_ty T.z_tuple bb_tuple) aa_nil))))))))))))))
theorem d_inner_of {z : Ad} (T : Txt K mg z)  {f : Addr} (cdv : Value) (A : Around) (outer : List PySem.Env) (s : Shared) (H : Hp) (E : XK) (c : Cg false (cxOf (L2.CX P w) P w K mg base PK.N_inner_of "inner_of" (defScope s_inner_of) f cdv A outer s H E) E 0) :
    ASs (cxOf (L2.CX P w) P w K mg base PK.N_inner_of "inner_of" (defScope s_inner_of) f cdv A outer s H E) E (defBody s_inner_of) (PK.w_inner_of z) :=
  (ass_one (as_ret (ae_if (at_in (ae_ix (ae_var 0) ae_int) (ae_tup (aa_cons (ae_glob T.c_FORK) (aa_cons (ae_glob T.c_REPEAT) aa_nil)))) (ae_ix (ae_var 0) (ae_neg ae_int)) (ae_tup aa_nil))))
theorem d_bytes_of {z : Ad} (T : Txt K mg z)  {f : Addr} (cdv : Value) (A : Around) (outer : List PySem.Env) (s : Shared) (H : Hp) (E : XK) (c : Cg false (cxOf (L2.CX P w) P w K mg base PK.N_bytes_of "bytes_of" (defScope s_bytes_of) f cdv A outer s H E) E 0) :
    ASs (cxOf (L2.CX P w) P w K mg base PK.N_bytes_of "bytes_of" (defScope s_bytes_of) f cdv A outer s H E) E (defBody s_bytes_of) (PK.w_bytes_of z) :=
  (ass_cons (as_if (at_eq c (ae_ix (ae_var 0) ae_int) (ae_glob T.c_WRITE)) (ass_one (as_ret (ae_ix (ae_var 0) ae_int))) ass_nil)
    (ass_one (as_ret (ae_if (at_eq c (ae_ix (ae_var 0) ae_int) (ae_glob T.c_LINE)) ae_int ae_int))))
theorem d_wrong_in {z : Ad} (T : Txt K mg z) (n : Nat) (C_inner_of : Cal false P w K mg base "inner_of" 1 1 [] (fun ds _ => ds) (PK.S_inner_of z)) (C_is_head : Cal false P w K mg base "is_head" 3 1 [] (fun ds _ => ds) (PK.S_is_head z)) (C_wrong_in : Cal false P w K mg base "wrong_in" (3 + n) 3 [] (fun ds _ => ds) (PX.S_wrong_in z n)) {f : Addr} (cdv : Value) (A : Around) (outer : List PySem.Env) (s : Shared) (H : Hp) (E : XK) (c : Cg false (cxOf (L2.CX P w) P w K mg base N_wrong_in "wrong_in" (defScope s_wrong_in) f cdv A outer s H E) E (3 + n)) :
    ASs (cxOf (L2.CX P w) P w K mg base N_wrong_in "wrong_in" (defScope s_wrong_in) f cdv A outer s H E) E (defBody s_wrong_in) (PX.w_wrong_in z n) :=
  (ass_cons (as_for c (ai_num T.z_enumerate (aa_cons (ae_var 0) aa_nil)) (ag_tup c.calm (ags_cons (ag_name 3 c.nd) (ags_cons (ag_name 4 c.nd) ags_nil))) (ass_cons (as_set 5 c.nd (ae_tup (aa_star (ae_var 1) (aa_cons (ae_var 3) aa_nil))))
    (ass_cons (as_set 2 c.nd (ae_add false (ae_var 2) ae_int))
    (ass_cons (as_if (AW.at (aw_or (at_not (at_val (ae_call c C_is_head (by omega) (by decide) (aa_cons (ae_var 4) aa_nil)))) (aw_or (at_gt (ae_b dLen_ok T.z_len bb_len (aa_cons (ae_var 5) aa_nil)) (ae_glob T.c_MOST_DEPTH)) (aw_or1 (at_gt (ae_var 2) (ae_glob T.c_MOST_ACTIONS)))))) (ass_one (as_ret (ae_tup (aa_cons (ae_var 5) (aa_cons (ae_var 2) aa_nil))))) ass_nil)
    (ass_cons (as_asg (ae_call c C_wrong_in (by omega) (by decide) (aa_cons (ae_call c C_inner_of (by omega) (by decide) (aa_cons (ae_var 4) aa_nil)) (aa_cons (ae_var 5) (aa_cons (ae_var 2) aa_nil)))) (ag_tup c.calm (ags_cons (ag_name 6 c.nd) (ags_cons (ag_name 2 c.nd) ags_nil))))
    (ass_one (as_if (at_isnot (ae_var 6) ae_non) (ass_one (as_ret (ae_tup (aa_cons (ae_var 6) (aa_cons (ae_var 2) aa_nil))))) ass_nil)))))))
    (ass_one (as_ret (ae_tup (aa_cons ae_non (aa_cons (ae_var 2) aa_nil))))))
theorem d_first_wrong {z : Ad} (T : Txt K mg z) (C_wrong_in : Cal false P w K mg base "wrong_in" 19 3 [] (fun ds _ => ds) (PX.S_wrong_in z 16)) {f : Addr} (cdv : Value) (A : Around) (outer : List PySem.Env) (s : Shared) (H : Hp) (E : XK) (c : Cg false (cxOf (L2.CX P w) P w K mg base N_first_wrong "first_wrong" (defScope s_first_wrong) f cdv A outer s H E) E 19) :
    ASs (cxOf (L2.CX P w) P w K mg base N_first_wrong "first_wrong" (defScope s_first_wrong) f cdv A outer s H E) E (defBody s_first_wrong) (PX.w_first_wrong z) :=
  (ass_one (as_ret (ae_ix (ae_call c C_wrong_in (by decide) (by decide) (aa_cons (ae_var 0) (aa_cons (ae_tup aa_nil) (aa_cons ae_int aa_nil)))) ae_int)))
theorem d_size_in {z : Ad} (T : Txt K mg z) (n : Nat) (C_inner_of : Cal false P w K mg base "inner_of" 1 1 [] (fun ds _ => ds) (PK.S_inner_of z)) (C_size_in : Cal false P w K mg base "size_in" (1 + n) 1 [] (fun ds _ => ds) (PK.S_size_in z n)) {f : Addr} (cdv : Value) (A : Around) (outer : List PySem.Env) (s : Shared) (H : Hp) (E : XK) (c : Cg false (cxOf (L2.CX P w) P w K mg base PK.N_size_in "size_in" (defScope s_size_in) f cdv A outer s H E) E (1 + n)) :
    ASs (cxOf (L2.CX P w) P w K mg base PK.N_size_in "size_in" (defScope s_size_in) f cdv A outer s H E) E (defBody s_size_in) (PK.w_size_in z n) :=
  (ass_cons (as_set 1 c.nd ae_int)
    (ass_cons (as_for c (ai_tup (ae_var 0)) (ag_name 2 c.nd) (ass_cons (as_set 3 c.nd (ae_call c C_size_in (by omega) (by decide) (aa_cons (ae_call c C_inner_of (by omega) (by decide) (aa_cons (ae_var 2) aa_nil)) aa_nil)))
    (ass_one (as_set 1 c.nd (ae_add false (ae_var 1) (ae_if (at_eq c (ae_ix (ae_var 2) ae_int) (ae_glob T.c_REPEAT)) (ae_mul false (ae_ix (ae_var 2) ae_int) (ae_var 3)) (ae_add false ae_int (ae_var 3))))))))
    (ass_one (as_ret (ae_var 1)))))
theorem d_bytes_in {z : Ad} (T : Txt K mg z) (n : Nat) (C_bytes_in : Cal false P w K mg base "bytes_in" (1 + n) 1 [] (fun ds _ => ds) (PK.S_bytes_in z n)) (C_bytes_of : Cal false P w K mg base "bytes_of" 1 1 [] (fun ds _ => ds) (PK.S_bytes_of z)) {f : Addr} (cdv : Value) (A : Around) (outer : List PySem.Env) (s : Shared) (H : Hp) (E : XK) (c : Cg false (cxOf (L2.CX P w) P w K mg base PK.N_bytes_in "bytes_in" (defScope s_bytes_in) f cdv A outer s H E) E (1 + n)) :
    ASs (cxOf (L2.CX P w) P w K mg base PK.N_bytes_in "bytes_in" (defScope s_bytes_in) f cdv A outer s H E) E (defBody s_bytes_in) (PK.w_bytes_in z n) :=
  (ass_cons (as_set 1 c.nd ae_int)
    (ass_cons (as_for c (ai_tup (ae_var 0)) (ag_name 2 c.nd) (ass_one (as_set 1 c.nd (ae_add false (ae_var 1) (ae_if (at_eq c (ae_ix (ae_var 2) ae_int) (ae_glob T.c_REPEAT)) (ae_mul false (ae_ix (ae_var 2) ae_int) (ae_call c C_bytes_in (by omega) (by decide) (aa_cons (ae_ix (ae_var 2) ae_int) aa_nil))) (ae_call c C_bytes_of (by omega) (by decide) (aa_cons (ae_var 2) aa_nil)))))))
    (ass_one (as_ret (ae_var 1)))))
theorem d_reach_in {z : Ad} (T : Txt K mg z) (n : Nat) (C_bytes_in : Cal false P w K mg base "bytes_in" 17 1 [] (fun ds _ => ds) (PK.S_bytes_in z 16)) (C_bytes_of : Cal false P w K mg base "bytes_of" 1 1 [] (fun ds _ => ds) (PK.S_bytes_of z)) (C_reach_in : Cal false P w K mg base "reach_in" (17 + n) 1 [] (fun ds _ => ds) (PK.S_reach_in z n)) {f : Addr} (cdv : Value) (A : Around) (outer : List PySem.Env) (s : Shared) (H : Hp) (E : XK) (c : Cg false (cxOf (L2.CX P w) P w K mg base PK.N_reach_in "reach_in" (defScope s_reach_in) f cdv A outer s H E) E (17 + n)) :
    ASs (cxOf (L2.CX P w) P w K mg base PK.N_reach_in "reach_in" (defScope s_reach_in) f cdv A outer s H E) E (defBody s_reach_in) (PK.w_reach_in z n) :=
  (ass_cons (as_set 1 c.nd ae_int)
    (ass_cons (as_set 2 c.nd ae_int)
    (ass_cons (as_for c (ai_tup (ae_var 0)) (ag_name 3 c.nd) (ass_one (as_if (at_eq c (ae_ix (ae_var 3) ae_int) (ae_glob T.c_FORK)) (ass_one (as_set 2 c.nd (ae_b (dMax2_ok c.calm) T.z_max bb_max (aa_cons (ae_var 2) (aa_cons (ae_add false (ae_var 1) (ae_call c C_reach_in (by omega) (by decide) (aa_cons (ae_ix (ae_var 3) ae_int) aa_nil))) aa_nil))))) (ass_one (as_if (AW.at (aw_and (at_eq c (ae_ix (ae_var 3) ae_int) (ae_glob T.c_REPEAT)) (aw_and1 (at_gt (ae_ix (ae_var 3) ae_int) ae_int)))) (ass_cons (as_set 4 c.nd (ae_call c C_bytes_in (by omega) (by decide) (aa_cons (ae_ix (ae_var 3) ae_int) aa_nil)))
    (ass_cons (as_set 2 c.nd (ae_b (dMax2_ok c.calm) T.z_max bb_max (aa_cons (ae_var 2) (aa_cons (ae_add false (ae_add false (ae_var 1) (ae_mul false (ae_sub (ae_ix (ae_var 3) ae_int) ae_int) (ae_var 4))) (ae_call c C_reach_in (by omega) (by decide) (aa_cons (ae_ix (ae_var 3) ae_int) aa_nil))) aa_nil))))
    (ass_one (as_set 1 c.nd (ae_add false (ae_var 1) (ae_mul false (ae_ix (ae_var 3) ae_int) (ae_var 4))))))) (ass_one (as_set 1 c.nd (ae_add false (ae_var 1) (ae_call c C_bytes_of (by omega) (by decide) (aa_cons (ae_var 3) aa_nil))))))))))
    (ass_one (as_ret (ae_b (dMax2_ok c.calm) T.z_max bb_max (aa_cons (ae_var 2) (aa_cons (ae_var 1) aa_nil))))))))
theorem d_Program___init__ {z : Ad} (T : Txt K mg z) (C_first_wrong : Cal false P w K mg base "first_wrong" 20 1 [] (fun ds _ => ds) (PX.S_first_wrong z)) (C_reach_in : Cal false P w K mg base "reach_in" 33 1 [] (fun ds _ => ds) (PK.S_reach_in z 16)) (C_size_in : Cal false P w K mg base "size_in" 17 1 [] (fun ds _ => ds) (PK.S_size_in z 16)) (X_InvalidProgram : XMk P w K mg base "InvalidProgram" z.InvalidProgram 1 ["place"]) (X_TooLarge : XMk P w K mg base "TooLarge" z.TooLarge 1 ["points"]) (X_TooLong : XMk P w K mg base "TooLong" z.TooLong 1 ["length"]) {f : Addr} (cdv : Value) (A : Around) (outer : List PySem.Env) (s : Shared) (H : Hp) (E : XK) (c : Cg false (cxOf (L2.CX P w) P w K mg base N_Program___init__ "Program.__init__" (defScope s_Program___init__) f cdv A outer s H E) E 33) :
    ASs (cxOf (L2.CX P w) P w K mg base N_Program___init__ "Program.__init__" (defScope s_Program___init__) f cdv A outer s H E) E (defBody s_Program___init__) (PX.w_Program___init__ z) :=
  (ass_cons (as_set 2 c.nd (ae_call c C_first_wrong (by decide) (by decide) (aa_cons (ae_var 1) aa_nil)))
    (ass_cons (as_if (at_isnot (ae_var 2) ae_non) (ass_one (as_raise c X_InvalidProgram (by decide) (aa_cons (ae_var 2) aa_nil))) ass_nil)
    (ass_cons (as_set 3 c.nd (ae_call c C_size_in (by decide) (by decide) (aa_cons (ae_var 1) aa_nil)))
    (ass_cons (as_if (at_gt (ae_var 3) (ae_glob T.c_MOST_POINTS_HERE)) (ass_one (as_raise c X_TooLarge (by decide) (aa_cons (ae_var 3) aa_nil))) ass_nil)
    (ass_cons (as_set 4 c.nd (ae_call c C_reach_in (by decide) (by decide) (aa_cons (ae_var 1) aa_nil)))
    (ass_cons (as_if (at_gt (ae_var 4) (ae_glob T.c_MOST_BYTES_HERE)) (ass_one (as_raise c X_TooLong (by decide) (aa_cons (ae_var 4) aa_nil))) ass_nil)
    (ass_one (AS.or (as_fld T.k_Program T.n_Program_held (ae_var 0) (ae_var 1)) (as_fld T.k_LineProgram T.n_LineProgram_held (ae_var 0) (ae_var 1))))))))))
theorem d_Program_of {z : Ad} (T : Txt K mg z) (M_LineProgram : MakC P w K mg base "LineProgram" z.LineProgram 34 (starS 1 (PX.S_Program___init__ z))) (M_Program : MakC P w K mg base "Program" z.Program 34 (starS 1 (PX.S_Program___init__ z))) (X_InvalidProgram : XMk P w K mg base "InvalidProgram" z.InvalidProgram 1 ["place"]) {f : Addr} (cdv : Value) (A : Around) (outer : List PySem.Env) (s : Shared) (H : Hp) (E : XK) (c : Cg false (cxOf (L2.CX P w) P w K mg base N_Program_of "Program.of" (defScope s_Program_of) f cdv A outer s H E) E 35) :
    ASs (cxOf (L2.CX P w) P w K mg base N_Program_of "Program.of" (defScope s_Program_of) f cdv A outer s H E) E (defBody s_Program_of) (PX.w_Program_of z) :=
  (ass_cons (as_if (at_not (at_val (ae_b dIsi_ok T.z_isinstance bb_isinstance (aa_cons (ae_var 1) (aa_cons (ae_ty T.z_tuple bb_tuple) aa_nil))))) (ass_one (as_raise c X_InvalidProgram (by decide) (aa_cons (ae_tup aa_nil) aa_nil))) ass_nil)
    (ass_one (as_ret (AE.or (ag_makeVS 0 c M_Program (by decide) (ae_var 1)) (ag_makeVS 0 c M_LineProgram (by decide) (ae_var 1))))))
theorem d_Program_size {z : Ad} (T : Txt K mg z) (C_size_in : Cal false P w K mg base "size_in" 17 1 [] (fun ds _ => ds) (PK.S_size_in z 16)) {f : Addr} (cdv : Value) (A : Around) (outer : List PySem.Env) (s : Shared) (H : Hp) (E : XK) (c : Cg false (cxOf (L2.CX P w) P w K mg base PK.N_Program_size "Program.size" (defScope s_Program_size) f cdv A outer s H E) E 17) :
    ASs (cxOf (L2.CX P w) P w K mg base PK.N_Program_size "Program.size" (defScope s_Program_size) f cdv A outer s H E) E (defBody s_Program_size) (PK.w_Program_size z) :=
  (ass_one (as_ret (ae_call c C_size_in (by decide) (by decide) (aa_cons (AE.or (ae_fld T.k_Program T.n_Program_held (ae_var 0)) (ae_fld T.k_LineProgram T.n_LineProgram_held (ae_var 0))) aa_nil))))
theorem d_Program_reach {z : Ad} (T : Txt K mg z) (C_reach_in : Cal false P w K mg base "reach_in" 33 1 [] (fun ds _ => ds) (PK.S_reach_in z 16)) {f : Addr} (cdv : Value) (A : Around) (outer : List PySem.Env) (s : Shared) (H : Hp) (E : XK) (c : Cg false (cxOf (L2.CX P w) P w K mg base PK.N_Program_reach "Program.reach" (defScope s_Program_reach) f cdv A outer s H E) E 33) :
    ASs (cxOf (L2.CX P w) P w K mg base PK.N_Program_reach "Program.reach" (defScope s_Program_reach) f cdv A outer s H E) E (defBody s_Program_reach) (PK.w_Program_reach z) :=
  (ass_one (as_ret (ae_call c C_reach_in (by decide) (by decide) (aa_cons (AE.or (ae_fld T.k_Program T.n_Program_held (ae_var 0)) (ae_fld T.k_LineProgram T.n_LineProgram_held (ae_var 0))) aa_nil))))
theorem d__law_pen {z : Ad} (T : Txt K mg z)  {f : Addr} (cdv : Value) (A : Around) (outer : List PySem.Env) (s : Shared) (H : Hp) (E : XK) (c : Cg false (cxOf (L2.CX P w) P w K mg base N__law_pen "_law_pen" (defScope s__law_pen) f cdv A outer s H E) E 0) :
    ASs (cxOf (L2.CX P w) P w K mg base N__law_pen "_law_pen" (defScope s__law_pen) f cdv A outer s H E) E (defBody s__law_pen) (F1.w__law_pen z) :=
  (ass_one (as_ret (ae_lst true (aa_cons (ae_bt (dListOf_ok (m := false)) T.z_list bb_list (aa_cons (ae_sl false (ae_var 0) ao_none (ao_some ae_int)) aa_nil)) (aa_cons ae_int (aa_cons ae_int aa_nil))))))
theorem d__law_draw {z : Ad} (T : Txt K mg z)  {f : Addr} (cdv : Value) (A : Around) (outer : List PySem.Env) (s : Shared) (H : Hp) (E : XK) (c : Cg false (cxOf (L2.CX P w) P w K mg base N__law_draw "_law_draw" (defScope s__law_draw) f cdv A outer s H E) E 0) :
    ASs (cxOf (L2.CX P w) P w K mg base N__law_draw "_law_draw" (defScope s__law_draw) f cdv A outer s H E) E (defBody s__law_draw) (F1.w__law_draw z) :=
  (ass_cons (as_if (at_gt (ae_ix (ae_var 0) ae_int) ae_int) (ass_cons (as_set 2 c.nd (ae_mod (ae_ix (ae_var 0) ae_int) (ae_var 1)))
    (ass_cons (as_asg (ae_div (ae_ix (ae_var 0) ae_int) (ae_var 1)) (ag_subL (ae_var 0) ae_int (fun _ => rfl)))
    (ass_one (as_ret (ae_var 2))))) ass_nil)
    (ass_cons (as_set 3 c.nd (ae_ix (ae_var 0) ae_int))
    (ass_cons (as_asg (ae_add false (ae_var 3) ae_int) (ag_subL (ae_var 0) ae_int (fun _ => rfl)))
    (ass_cons (as_set 4 c.nd (ae_add false (ae_mul false ae_int (ae_var 3)) ae_int))
    (ass_cons (as_if (at_ne c (ae_ix (ae_var 0) ae_int) (ae_lst false aa_nil)) (ass_one (as_set 4 c.nd (ae_ix (ae_ix (ae_var 0) ae_int) (ae_mod (ae_var 3) (ae_b dLen_ok T.z_len bb_len (aa_cons (ae_ix (ae_var 0) ae_int) aa_nil)))))) ass_nil)
    (ass_cons (as_if (AW.at (aw_and (at_lt (ae_var 3) (ae_b dLen_ok T.z_len bb_len (aa_cons (ae_ix (ae_var 0) ae_int) aa_nil))) (aw_and1 (at_ge (ae_b dAbs_ok T.z_abs bb_abs (aa_cons (ae_var 4) aa_nil)) (ae_pow ae_int ae_int))))) (ass_cons (as_set 5 c.nd (ae_add false (ae_mul false ae_int (ae_b dAbs_ok T.z_abs bb_abs (aa_cons (ae_var 4) aa_nil))) (ae_bt dInt_ok T.z_int bb_int (aa_cons (ae_lt (ae_var 4) ae_int) aa_nil))))
    (ass_cons (as_asg (ae_div (ae_var 5) (ae_var 1)) (ag_subL (ae_var 0) ae_int (fun _ => rfl)))
    (ass_one (as_ret (ae_mod (ae_var 5) (ae_var 1)))))) ass_nil)
    (ass_cons (as_set 6 c.nd (ae_mod (ae_pow (ae_add false (ae_add false (ae_mod (ae_var 4) ae_int) (ae_mul false ae_int (ae_var 3))) ae_int) ae_int) ae_int))
    (ass_cons (as_set 6 c.nd (ae_mod (ae_pow (ae_add false (ae_mul false (ae_var 6) (ae_add false (ae_mul false ae_int (ae_var 3)) ae_int)) ae_int) ae_int) ae_int))
    (ass_one (as_ret (ae_mod (ae_div (ae_var 6) ae_int) (ae_var 1))))))))))))
theorem d__law_heard {z : Ad} (T : Txt K mg z)  {f : Addr} (d : D) (tl : Thk) (cdv : Value) (A : Around) (outer : List PySem.Env) (s : Shared) (H : Hp) (E : XK) (c : Cg false (cxOf (L2.CX P w) P w K mg base N__law_heard "_law_heard" (defScope s__law_heard) f cdv A outer s H E) E 0) (act : ActOk (cxOf (L2.CX P w) P w K mg base N__law_heard "_law_heard" (defScope s__law_heard) f cdv A outer s H E) "_law_ask" d tl) :
    ASs (cxOf (L2.CX P w) P w K mg base N__law_heard "_law_heard" (defScope s__law_heard) f cdv A outer s H E) E (defBody s__law_heard) (PX.w__law_heard z d tl) :=
  (ass_cons (as_set 1 c.nd ae_non)
    (ass_cons (as_set 2 c.nd ae_non)
    (ass_cons (as_try 3 1 c T.xerr T.xg_EchoError T.xg_SizeError T.xg_AbsentError (fun pn xe E' tk c => (ass_one (as_set 2 c.nd (act pn xe E' _ _ tk)))) (by decide))
    (ass_cons (as_if (at_is (ae_var 1) ae_non) (ass_one (as_ret (ae_lst false (aa_cons (ae_var 2) aa_nil)))) ass_nil)
    (ass_cons (as_set 4 c.nd (ae_lst true (aa_cons (ae_b (dIsX_ok T.xtab) T.z_isinstance bb_isinstance (aa_cons (ae_var 1) (aa_cons (ae_glob T.v_InvalidProgram) aa_nil))) (aa_cons (ae_b (dIsX_ok T.xtab) T.z_isinstance bb_isinstance (aa_cons (ae_var 1) (aa_cons (ae_glob T.v_NoPlace) aa_nil))) (aa_cons (ae_b (dIsX_ok T.xtab) T.z_isinstance bb_isinstance (aa_cons (ae_var 1) (aa_cons (ae_glob T.v_TooLarge) aa_nil))) aa_nil)))))
    (ass_cons (as_set 4 c.nd (ae_add true (ae_var 4) (ae_lst false (aa_cons (ae_b (dIsX_ok T.xtab) T.z_isinstance bb_isinstance (aa_cons (ae_var 1) (aa_cons (ae_glob T.v_TooLong) aa_nil))) (aa_cons (ae_b (dIsX_ok T.xtab) T.z_isinstance bb_isinstance (aa_cons (ae_var 1) (aa_cons (ae_glob T.v_InvalidNumber) aa_nil))) (aa_cons (ae_b (dIsX_ok T.xtab) T.z_isinstance bb_isinstance (aa_cons (ae_var 1) (aa_cons (ae_glob T.v_InvalidMode) aa_nil))) aa_nil))))))
    (ass_cons (as_expr (ae_append (ae_var 4) (aa_cons (ae_b (dIsX_ok T.xtab) T.z_isinstance bb_isinstance (aa_cons (ae_var 1) (aa_cons (ae_glob T.v_DifferentModes) aa_nil))) aa_nil)))
    (ass_cons (as_set 5 c.nd (ae_lst false (aa_cons (ae_b (dIsX_ok T.xtab) T.z_isinstance bb_isinstance (aa_cons (ae_var 1) (aa_cons (ae_ty T.z_ValueError (by decide +kernel)) aa_nil))) (aa_cons (ae_b (dIsX_ok T.xtab) T.z_isinstance bb_isinstance (aa_cons (ae_var 1) (aa_cons (ae_ty T.z_LookupError (by decide +kernel)) aa_nil))) (aa_cons (ae_b (dIsX_ok T.xtab) T.z_isinstance bb_isinstance (aa_cons (ae_var 1) (aa_cons (ae_ty T.z_OverflowError (by decide +kernel)) aa_nil))) aa_nil)))))
    (ass_cons (as_if (AW.at (aw_or (at_ne c (ae_countB (ae_var 4) (aa_cons ae_bl aa_nil)) ae_int) (aw_or1 (at_val (ae_b (dIsXT_ok T.xtab) T.z_isinstance bb_isinstance (aa_cons (ae_var 1) (aa_cons (ae_tup (aa_cons (ae_glob T.v_InvalidCapacity) (aa_cons (ae_glob T.v_TooManyProcesses) (aa_cons (ae_glob T.v_NoPoint) aa_nil)))) aa_nil))))))) (ass_one (as_ret (ae_tup (aa_cons ae_str (aa_cons ae_non aa_nil))))) ass_nil)
    (ass_cons (as_set 6 c.nd (ae_indexB (ae_var 4) (aa_cons ae_bl aa_nil)))
    (ass_cons (as_if (at_ne c (ae_var 5) (ae_lst false (aa_cons (ae_notin (ae_var 6) (ae_tup (aa_cons ae_int (aa_cons ae_int (aa_cons ae_int aa_nil))))) (aa_cons (ae_eq c (ae_var 6) ae_int) (aa_cons (ae_in (ae_var 6) (ae_tup (aa_cons ae_int (aa_cons ae_int aa_nil)))) aa_nil))))) (ass_one (as_ret (ae_tup (aa_cons ae_str (aa_cons ae_non aa_nil))))) ass_nil)
    (ass_cons (as_if (at_lt (ae_var 6) ae_int) (ass_one (as_ret (ae_tup (aa_cons (ae_ix (ae_lst false (aa_cons ae_str (aa_cons ae_str aa_nil))) (ae_var 6)) (aa_cons (ae_xfld T.xf_place (ae_var 1)) aa_nil))))) ass_nil)
    (ass_cons (as_if (at_lt (ae_var 6) ae_int) (ass_one (as_ret (ae_if (at_eq c (ae_var 6) ae_int) (ae_tup (aa_cons ae_str (aa_cons (ae_xfld T.xf_points (ae_var 1)) aa_nil))) (ae_tup (aa_cons ae_str (aa_cons (ae_xfld T.xf_length (ae_var 1)) aa_nil)))))) ass_nil)
    (ass_one (as_ret (ae_if (at_eq c (ae_var 6) ae_int) (ae_tup (aa_cons ae_str (aa_cons ae_non aa_nil))) (ae_tup (aa_cons (ae_ix (ae_lst false (aa_cons ae_str (aa_cons ae_str aa_nil))) (ae_sub (ae_var 6) ae_int)) (aa_cons (ae_xfld T.xf_value (ae_var 1)) aa_nil)))))))))))))))))))
theorem d__law_told {z : Ad} (T : Txt K mg z) (R_Program_of : CMetC P w K mg base z.Program "of" 36 (PX.S_Program_of z)) (RC_LineProgram_of_body : CMetKC P w K mg base z.LineProgram "of" 36 ["body"] (pickD [0, 1]) (PX.S_Program_of z)) (R_LineProgram_reach : PrpC P w K mg base z.LineProgram "reach" 34 (PK.S_Program_reach z)) (R_LineProgram_size : PrpC P w K mg base z.LineProgram "size" 18 (PK.S_Program_size z)) (R_Program_reach : PrpC P w K mg base z.Program "reach" 34 (PK.S_Program_reach z)) (R_Program_size : PrpC P w K mg base z.Program "size" 18 (PK.S_Program_size z)) (H__law_heard : HCal P w K mg base false "_law_heard" 0 (PX.S__law_heard z)) {cc : Addr} (TB : LamX.TabB base mg cc z.t0) {f : Addr} (A : Around) (outer : List PySem.Env) (s : Shared) (H : Hp) (E : XK) (c : Cg false (cxOf (L2.CX P w) P w K mg base N__law_told "_law_told" (defScope s__law_told) f (.ref cc) A outer s H E) E 38) :
    ASs (cxOf (L2.CX P w) P w K mg base N__law_told "_law_told" (defScope s__law_told) f (.ref cc) A outer s H E) E (defBody s__law_told) (w__law_told z) :=
  (ass_cons (as_set 2 c.nd (ae_heard c H__law_heard (by decide) TB rfl (by decide) (fun A outer s H E' f c' c => (ae_if (at_truth (ae_var 1)) (ag_cmet c R_Program_of (by decide) (ae_glob T.v_Program) (aa_cons (ae_var 0) aa_nil)) (ag_cmetK c RC_LineProgram_of_body (by decide) (ae_glob T.v_LineProgram) (ak_cons (ae_var 0) ak_nil)))) (LamX.lamS_by (show LamX.lamSB (defScope s__law_told) _ = true from by decide +kernel)) (by decide)))
    (ass_one (as_ret (ae_if (at_val (ae_b dIsi_ok T.z_isinstance bb_isinstance (aa_cons (ae_var 2) (aa_cons (ae_ty T.z_list bb_list) aa_nil)))) (ae_lst false (aa_cons (AE.or (ag_prop c R_Program_size (by decide) (ae_ix (ae_var 2) ae_int)) (ag_prop c R_LineProgram_size (by decide) (ae_ix (ae_var 2) ae_int))) (aa_cons (AE.or (ag_prop c R_Program_reach (by decide) (ae_ix (ae_var 2) ae_int)) (ag_prop c R_LineProgram_reach (by decide) (ae_ix (ae_var 2) ae_int))) aa_nil))) (ae_var 2)))))
theorem d__law_actions_right {z : Ad} (T : Txt K mg z) (C__law_draw : Cal false P w K mg base "_law_draw" 1 2 [] (fun ds _ => ds) (F1.S__law_draw z)) (C__law_told : Cal false P w K mg base "_law_told" 39 2 [] (fun ds _ => ds) (S__law_told z)) {f : Addr} (cdv : Value) (A : Around) (outer : List PySem.Env) (s : Shared) (H : Hp) (E : XK) (c : Cg false (cxOf (L2.CX P w) P w K mg base N__law_actions_right "_law_actions_right" (defScope s__law_actions_right) f cdv A outer s H E) E 39) :
    ASs (cxOf (L2.CX P w) P w K mg base N__law_actions_right "_law_actions_right" (defScope s__law_actions_right) f cdv A outer s H E) E (defBody s__law_actions_right) (w__law_actions_right z) :=
  (ass_cons (as_set 2 c.nd (ae_add false ae_int (ae_call c C__law_draw (by decide) (by decide) (aa_cons (ae_var 0) (aa_cons ae_int aa_nil)))))
    (ass_cons (as_set 3 c.nd (ae_ix (ae_lst false (aa_cons (ae_tup (aa_cons ae_str aa_nil)) (aa_cons (ae_tup (aa_cons ae_str (aa_cons ae_int aa_nil))) aa_nil))) (ae_call c C__law_draw (by decide) (by decide) (aa_cons (ae_var 0) (aa_cons ae_int aa_nil)))))
    (ass_cons (as_set 4 c.nd (ae_add false (ae_var 3) (ae_tup (aa_cons (ae_mulTA (ae_tup (aa_cons (ae_tup (aa_cons ae_str aa_nil)) aa_nil)) (ae_var 2)) aa_nil))))
    (ass_cons (as_set 5 c.nd (ae_call c C__law_draw (by decide) (by decide) (aa_cons (ae_var 0) (aa_cons (ae_sub ae_int (ae_var 2)) aa_nil))))
    (ass_cons (as_set 6 c.nd (ae_add false (ae_add false (ae_mulTA (ae_tup (aa_cons (ae_tup (aa_cons ae_str aa_nil)) aa_nil)) (ae_var 5)) (ae_tup (aa_cons (ae_var 4) aa_nil))) (ae_mulTA (ae_tup (aa_cons (ae_tup (aa_cons ae_str aa_nil)) aa_nil)) (ae_sub (ae_sub ae_int (ae_var 2)) (ae_var 5)))))
    (ass_cons (as_set 7 c.nd (ae_ix (ae_lst false (aa_cons ae_int (aa_cons (ae_sub ae_int (ae_var 2)) aa_nil))) (ae_bt dInt_ok T.z_int bb_int (aa_cons (ae_eq c (ae_ix (ae_var 3) ae_int) ae_str) aa_nil))))
    (ass_cons (as_if (at_ne c (ae_call c C__law_told (by decide) (by decide) (aa_cons (ae_var 6) (aa_cons (ae_var 1) aa_nil))) (ae_lst false (aa_cons (ae_var 7) (aa_cons ae_int aa_nil)))) (ass_one (as_ret ae_bl)) ass_nil)
    (ass_cons (as_if (at_ne c (ae_call c C__law_told (by decide) (by decide) (aa_cons (ae_add false (ae_var 6) (ae_tup (aa_cons (ae_tup (aa_cons ae_str aa_nil)) aa_nil))) (aa_cons (ae_var 1) aa_nil))) (ae_tup (aa_cons ae_str (aa_cons (ae_tup (aa_cons (ae_b dLen_ok T.z_len bb_len (aa_cons (ae_var 6) aa_nil)) aa_nil)) aa_nil)))) (ass_one (as_ret ae_bl)) ass_nil)
    (ass_cons (as_set 8 c.nd (ae_add false (ae_mulTA (ae_tup (aa_cons (ae_tup (aa_cons ae_str aa_nil)) aa_nil)) ae_int) (ae_tup (aa_cons (ae_add false (ae_var 3) (ae_tup (aa_cons (ae_tup (aa_cons (ae_tup (aa_cons ae_str aa_nil)) aa_nil)) aa_nil))) aa_nil))))
    (ass_one (as_ret (ae_eq c (ae_call c C__law_told (by decide) (by decide) (aa_cons (ae_var 8) (aa_cons (ae_var 1) aa_nil))) (ae_tup (aa_cons ae_str (aa_cons (ae_tup (aa_cons ae_int (aa_cons ae_int aa_nil))) aa_nil)))))))))))))))
theorem d__law_depth_right {z : Ad} (T : Txt K mg z) (C__law_draw : Cal false P w K mg base "_law_draw" 1 2 [] (fun ds _ => ds) (F1.S__law_draw z)) (C__law_told : Cal false P w K mg base "_law_told" 39 2 [] (fun ds _ => ds) (S__law_told z)) {f : Addr} (cdv : Value) (A : Around) (outer : List PySem.Env) (s : Shared) (H : Hp) (E : XK) (c : Cg false (cxOf (L2.CX P w) P w K mg base N__law_depth_right "_law_depth_right" (defScope s__law_depth_right) f cdv A outer s H E) E 39) :
    ASs (cxOf (L2.CX P w) P w K mg base N__law_depth_right "_law_depth_right" (defScope s__law_depth_right) f cdv A outer s H E) E (defBody s__law_depth_right) (w__law_depth_right z) :=
  (ass_cons (as_setLc false 2 (own := [("_law_k", 10)]) c (ai_rng1 T.z_range (aa_cons ae_int aa_nil)) (show BlkOk N__law_depth_right (defScope s__law_depth_right) _ [("_law_k", 10)] from ⟨rfl, by decide +kernel, by decide +kernel, by decide +kernel, by decide +kernel⟩) (gw_name (i := 10) (by decide)) (fun s H C cl fp => pg_name (i := 10) c.nd rfl (by first | exact Or.inl rfl | exact Or.inr rfl)) (fun s H C cl fp c => ats_nil) (fun s H C cl fp c => (ae_call c C__law_draw (by decide) (by decide) (aa_cons (ae_var 0) (aa_cons ae_int aa_nil)))))
    (ass_cons (as_set 3 c.nd (ae_tup (aa_cons ae_str aa_nil)))
    (ass_cons (as_set 4 c.nd (ae_lst true aa_nil))
    (ass_cons (as_for c (ai_list (ae_rev false (ae_var 2))) (ag_name 5 c.nd) (ass_cons (as_expr (ae_append (ae_var 4) (aa_cons (ae_var 3) aa_nil)))
    (ass_cons (as_set 6 c.nd (ae_ix (ae_lst false (aa_cons (ae_tup (aa_cons ae_str aa_nil)) (aa_cons (ae_tup (aa_cons ae_str (aa_cons ae_int aa_nil))) (aa_cons (ae_tup (aa_cons ae_str (aa_cons ae_int aa_nil))) aa_nil)))) (ae_call c C__law_draw (by decide) (by decide) (aa_cons (ae_var 0) (aa_cons ae_int aa_nil)))))
    (ass_one (as_set 3 c.nd (ae_add false (ae_var 6) (ae_tup (aa_cons (ae_add false (ae_mulTA (ae_tup (aa_cons (ae_tup (aa_cons ae_str aa_nil)) aa_nil)) (ae_var 5)) (ae_tup (aa_cons (ae_var 3) aa_nil))) aa_nil))))))))
    (ass_cons (as_set 7 c.nd (ae_add false (ae_mulTA (ae_tup (aa_cons (ae_tup (aa_cons ae_str aa_nil)) aa_nil)) (ae_ix (ae_var 2) ae_int)) (ae_tup (aa_cons (ae_ix (ae_var 4) (ae_neg ae_int)) aa_nil))))
    (ass_cons (as_if (at_ne c (ae_call c C__law_told (by decide) (by decide) (aa_cons (ae_var 7) (aa_cons (ae_var 1) aa_nil))) (ae_tup (aa_cons ae_str (aa_cons (ae_bt dTupOf_ok T.z_tuple bb_tuple (aa_cons (ae_add false (ae_sl false (ae_var 2) ao_none (ao_some ae_int)) (ae_lst false (aa_cons ae_int aa_nil))) aa_nil)) aa_nil)))) (ass_one (as_ret ae_bl)) ass_nil)
    (ass_cons (as_set 8 c.nd (ae_add false (ae_mulTA (ae_tup (aa_cons (ae_tup (aa_cons ae_str aa_nil)) aa_nil)) (ae_ix (ae_var 2) ae_int)) (ae_tup (aa_cons (ae_ix (ae_var 4) (ae_neg ae_int)) aa_nil))))
    (ass_cons (as_set 9 c.nd (ae_call c C__law_told (by decide) (by decide) (aa_cons (ae_var 8) (aa_cons (ae_var 1) aa_nil))))
    (ass_one (as_ret (ae_and (ae_b dIsi_ok T.z_isinstance bb_isinstance (aa_cons (ae_var 9) (aa_cons (ae_ty T.z_list bb_list) aa_nil))) (ae_one (ae_le (ae_ix (ae_var 9) ae_int) ae_int)))))))))))))
theorem d__law_points_right {z : Ad} (T : Txt K mg z) (C__law_draw : Cal false P w K mg base "_law_draw" 1 2 [] (fun ds _ => ds) (F1.S__law_draw z)) (C__law_told : Cal false P w K mg base "_law_told" 39 2 [] (fun ds _ => ds) (S__law_told z)) {f : Addr} (cdv : Value) (A : Around) (outer : List PySem.Env) (s : Shared) (H : Hp) (E : XK) (c : Cg false (cxOf (L2.CX P w) P w K mg base N__law_points_right "_law_points_right" (defScope s__law_points_right) f cdv A outer s H E) E 39) :
    ASs (cxOf (L2.CX P w) P w K mg base N__law_points_right "_law_points_right" (defScope s__law_points_right) f cdv A outer s H E) E (defBody s__law_points_right) (w__law_points_right z) :=
  (ass_cons (as_par 2 3 c (by decide) (aa_cons (ae_add false ae_int (ae_call c C__law_draw (by decide) (by decide) (aa_cons (ae_var 0) (aa_cons ae_int aa_nil)))) (aa_cons (ae_add false ae_int (ae_call c C__law_draw (by decide) (by decide) (aa_cons (ae_var 0) (aa_cons ae_int aa_nil)))) aa_nil)))
    (ass_cons (as_set 3 c.nd (ae_b (dMin2_ok c.calm) T.z_min bb_min (aa_cons (ae_var 3) (aa_cons (ae_div ae_int (ae_var 2)) aa_nil))))
    (ass_cons (as_set 4 c.nd (ae_sub ae_int (ae_mul false (ae_var 2) (ae_var 3))))
    (ass_cons (as_set 5 c.nd (ae_add false (ae_lst false (aa_cons (ae_tup (aa_cons ae_str (aa_cons ae_int (aa_cons (ae_mulTA (ae_tup (aa_cons (ae_tup (aa_cons ae_str aa_nil)) aa_nil)) (ae_div (ae_var 4) ae_int)) aa_nil)))) aa_nil)) (ae_mul false (ae_lst false (aa_cons (ae_tup (aa_cons ae_str aa_nil)) aa_nil)) (ae_mod (ae_var 4) ae_int))))
    (ass_cons (as_set 6 c.nd (ae_add false (ae_tup (aa_cons (ae_tup (aa_cons ae_str (aa_cons (ae_var 3) (aa_cons (ae_mulTA (ae_tup (aa_cons (ae_tup (aa_cons ae_str aa_nil)) aa_nil)) (ae_var 2)) aa_nil)))) aa_nil)) (ae_bt dTupOf_ok T.z_tuple bb_tuple (aa_cons (ae_var 5) aa_nil))))
    (ass_cons (as_if (at_ne c (ae_call c C__law_told (by decide) (by decide) (aa_cons (ae_var 6) (aa_cons (ae_var 1) aa_nil))) (ae_lst false (aa_cons ae_int (aa_cons ae_int aa_nil)))) (ass_one (as_ret ae_bl)) ass_nil)
    (ass_cons (as_set 7 c.nd (ae_tup (aa_cons ae_str (aa_cons (ae_tup (aa_cons (ae_tup (aa_cons ae_str (aa_cons ae_int aa_nil))) (aa_cons (ae_tup (aa_cons ae_str aa_nil)) aa_nil))) aa_nil))))
    (ass_cons (as_if (at_ne c (ae_call c C__law_told (by decide) (by decide) (aa_cons (ae_add false (ae_var 6) (ae_tup (aa_cons (ae_tup (aa_cons ae_str aa_nil)) aa_nil))) (aa_cons (ae_var 1) aa_nil))) (ae_tup (aa_cons ae_str (aa_cons ae_int aa_nil)))) (ass_one (as_ret ae_bl)) ass_nil)
    (ass_cons (as_if (at_ne c (ae_call c C__law_told (by decide) (by decide) (aa_cons (ae_add false (ae_var 6) (ae_tup (aa_cons (ae_var 7) aa_nil))) (aa_cons (ae_var 1) aa_nil))) (ae_tup (aa_cons ae_str (aa_cons ae_int aa_nil)))) (ass_one (as_ret ae_bl)) ass_nil)
    (ass_cons (as_set 8 c.nd (ae_tup (aa_cons ae_str (aa_cons (ae_add false ae_int (ae_call c C__law_draw (by decide) (by decide) (aa_cons (ae_var 0) (aa_cons ae_int aa_nil)))) aa_nil))))
    (ass_cons (as_for c (ai_rng1 T.z_range (aa_cons ae_int aa_nil)) (ag_name 9 c.nd) (ass_one (as_set 8 c.nd (ae_tup (aa_cons ae_str (aa_cons ae_int (aa_cons (ae_tup (aa_cons (ae_var 8) aa_nil)) aa_nil)))))))
    (ass_one (as_ret (ae_eq c (ae_call c C__law_told (by decide) (by decide) (aa_cons (ae_tup (aa_cons (ae_var 8) aa_nil)) (aa_cons (ae_var 1) aa_nil))) (ae_tup (aa_cons ae_str (aa_cons (ae_pow ae_int ae_int) aa_nil)))))))))))))))))
theorem d__law_bytes_right {z : Ad} (T : Txt K mg z) (C__law_draw : Cal false P w K mg base "_law_draw" 1 2 [] (fun ds _ => ds) (F1.S__law_draw z)) (C__law_told : Cal false P w K mg base "_law_told" 39 2 [] (fun ds _ => ds) (S__law_told z)) {f : Addr} (cdv : Value) (A : Around) (outer : List PySem.Env) (s : Shared) (H : Hp) (E : XK) (c : Cg false (cxOf (L2.CX P w) P w K mg base N__law_bytes_right "_law_bytes_right" (defScope s__law_bytes_right) f cdv A outer s H E) E 39) :
    ASs (cxOf (L2.CX P w) P w K mg base N__law_bytes_right "_law_bytes_right" (defScope s__law_bytes_right) f cdv A outer s H E) E (defBody s__law_bytes_right) (w__law_bytes_right z) :=
  (ass_cons (as_par 2 3 c (by decide) (aa_cons (ae_call c C__law_draw (by decide) (by decide) (aa_cons (ae_var 0) (aa_cons ae_int aa_nil))) (aa_cons (ae_add false ae_int (ae_call c C__law_draw (by decide) (by decide) (aa_cons (ae_var 0) (aa_cons ae_int aa_nil)))) aa_nil)))
    (ass_cons (as_set 4 c.nd (ae_sub ae_int (ae_mul false (ae_var 2) (ae_var 3))))
    (ass_cons (as_set 5 c.nd (ae_call c C__law_draw (by decide) (by decide) (aa_cons (ae_var 0) (aa_cons (ae_var 4) aa_nil))))
    (ass_cons (as_set 6 c.nd (ae_add false (ae_mulTA (ae_tup (aa_cons (ae_tup (aa_cons ae_str (aa_cons (ae_var 5) aa_nil))) aa_nil)) (ae_bt dInt_ok T.z_int bb_int (aa_cons (ae_gt (ae_var 5) ae_int) aa_nil))) (ae_tup (aa_cons (ae_tup (aa_cons ae_str (aa_cons (ae_var 2) (aa_cons (ae_tup (aa_cons (ae_tup (aa_cons ae_str (aa_cons (ae_var 3) aa_nil))) (aa_cons (ae_tup (aa_cons ae_str aa_nil)) aa_nil))) aa_nil)))) aa_nil))))
    (ass_cons (as_set 7 c.nd (ae_tup (aa_cons ae_str (aa_cons (ae_tup (aa_cons (ae_tup (aa_cons ae_str aa_nil)) (aa_cons (ae_tup (aa_cons ae_str (aa_cons (ae_sub (ae_var 4) (ae_var 5)) aa_nil))) aa_nil))) aa_nil))))
    (ass_cons (as_set 8 c.nd (ae_add false (ae_bt dInt_ok T.z_int bb_int (aa_cons (ae_gt (ae_var 5) ae_int) aa_nil)) (ae_mul false ae_int (ae_var 2))))
    (ass_cons (as_if (at_ne c (ae_call c C__law_told (by decide) (by decide) (aa_cons (ae_add false (ae_var 6) (ae_tup (aa_cons (ae_var 7) aa_nil))) (aa_cons (ae_var 1) aa_nil))) (ae_lst false (aa_cons (ae_add false (ae_var 8) ae_int) (aa_cons ae_int aa_nil)))) (ass_one (as_ret ae_bl)) ass_nil)
    (ass_cons (as_if (at_ne c (ae_call c C__law_told (by decide) (by decide) (aa_cons (ae_add false (ae_var 6) (ae_tup (aa_cons (ae_var 7) (aa_cons (ae_tup (aa_cons ae_str aa_nil)) aa_nil)))) (aa_cons (ae_var 1) aa_nil))) (ae_lst false (aa_cons (ae_add false (ae_var 8) ae_int) (aa_cons (ae_b (dMax2_ok c.calm) T.z_max bb_max (aa_cons ae_int (aa_cons (ae_add false (ae_add false (ae_mul false (ae_var 2) (ae_var 3)) (ae_var 5)) ae_int) aa_nil))) aa_nil)))) (ass_one (as_ret ae_bl)) ass_nil)
    (ass_cons (as_set 9 c.nd (ae_tup (aa_cons ae_str (aa_cons ae_int (aa_cons (ae_tup (aa_cons (ae_tup (aa_cons ae_str (aa_cons (ae_tup (aa_cons (ae_tup (aa_cons ae_str aa_nil)) (aa_cons (ae_tup (aa_cons ae_str (aa_cons (ae_sub (ae_var 4) (ae_var 5)) aa_nil))) aa_nil))) aa_nil))) (aa_cons (ae_tup (aa_cons ae_str aa_nil)) aa_nil))) aa_nil)))))
    (ass_cons (as_if (at_ne c (ae_call c C__law_told (by decide) (by decide) (aa_cons (ae_add false (ae_var 6) (ae_tup (aa_cons (ae_var 9) aa_nil))) (aa_cons (ae_var 1) aa_nil))) (ae_tup (aa_cons ae_str (aa_cons ae_int aa_nil)))) (ass_one (as_ret ae_bl)) ass_nil)
    (ass_cons (as_set 10 c.nd (ae_tup (aa_cons ae_str (aa_cons ae_int (aa_cons (ae_tup (aa_cons (ae_tup (aa_cons ae_str (aa_cons ae_int aa_nil))) (aa_cons (ae_tup (aa_cons ae_str (aa_cons ae_int aa_nil))) aa_nil))) aa_nil)))))
    (ass_one (as_ret (ae_eq c (ae_call c C__law_told (by decide) (by decide) (aa_cons (ae_add false (ae_var 6) (ae_tup (aa_cons (ae_var 10) (aa_cons (ae_var 7) aa_nil)))) (aa_cons (ae_var 1) aa_nil))) (ae_lst false (aa_cons (ae_add false (ae_var 8) ae_int) (aa_cons ae_int aa_nil)))))))))))))))))
theorem d__law_order_right {z : Ad} (T : Txt K mg z) (C__law_draw : Cal false P w K mg base "_law_draw" 1 2 [] (fun ds _ => ds) (F1.S__law_draw z)) (C__law_told : Cal false P w K mg base "_law_told" 39 2 [] (fun ds _ => ds) (S__law_told z)) {f : Addr} (cdv : Value) (A : Around) (outer : List PySem.Env) (s : Shared) (H : Hp) (E : XK) (c : Cg false (cxOf (L2.CX P w) P w K mg base N__law_order_right "_law_order_right" (defScope s__law_order_right) f cdv A outer s H E) E 39) :
    ASs (cxOf (L2.CX P w) P w K mg base N__law_order_right "_law_order_right" (defScope s__law_order_right) f cdv A outer s H E) E (defBody s__law_order_right) (w__law_order_right z) :=
  (ass_cons (as_par 2 3 c (by decide) (aa_cons (ae_tup (aa_cons ae_str aa_nil)) (aa_cons (ae_ix (ae_lst false (aa_cons (ae_tup (aa_cons ae_str (aa_cons ae_int aa_nil))) (aa_cons ae_non (aa_cons (ae_tup (aa_cons ae_str (aa_cons (ae_lst false aa_nil) aa_nil))) aa_nil)))) (ae_call c C__law_draw (by decide) (by decide) (aa_cons (ae_var 0) (aa_cons ae_int aa_nil)))) aa_nil)))
    (ass_cons (as_for c (ai_rng1 T.z_range (aa_cons ae_int aa_nil)) (ag_name 4 c.nd) (ass_one (as_set 2 c.nd (ae_tup (aa_cons ae_str (aa_cons (ae_tup (aa_cons (ae_var 2) aa_nil)) aa_nil))))))
    (ass_cons (as_set 5 c.nd (ae_call c C__law_draw (by decide) (by decide) (aa_cons (ae_var 0) (aa_cons ae_int aa_nil))))
    (ass_cons (as_par 6 7 c (by decide) (aa_cons (ae_mulTA (ae_tup (aa_cons (ae_tup (aa_cons ae_str aa_nil)) aa_nil)) (ae_var 5)) (aa_cons (ae_mulTA (ae_tup (aa_cons (ae_tup (aa_cons ae_str aa_nil)) aa_nil)) ae_int) aa_nil)))
    (ass_cons (as_set 8 c.nd (ae_lst true (aa_cons (ae_tup (aa_cons (ae_add false (ae_var 6) (ae_tup (aa_cons (ae_var 2) (aa_cons (ae_var 3) aa_nil)))) (aa_cons (ae_add false (ae_tup (aa_cons (ae_var 5) aa_nil)) (ae_mulTA (ae_tup (aa_cons ae_int aa_nil)) ae_int)) aa_nil))) (aa_cons (ae_tup (aa_cons (ae_add false (ae_var 6) (ae_tup (aa_cons (ae_var 3) (aa_cons (ae_var 2) aa_nil)))) (aa_cons (ae_tup (aa_cons (ae_var 5) aa_nil)) aa_nil))) (aa_cons (ae_tup (aa_cons (ae_add false (ae_var 7) (ae_tup (aa_cons (ae_var 3) aa_nil))) (aa_cons (ae_tup (aa_cons ae_int aa_nil)) aa_nil))) aa_nil)))))
    (ass_cons (as_set 8 c.nd (ae_add true (ae_var 8) (ae_lst false (aa_cons (ae_tup (aa_cons (ae_add false (ae_sl false (ae_var 7) (ao_some ae_int) ao_none) (ae_tup (aa_cons (ae_var 3) (aa_cons (ae_var 3) aa_nil)))) (aa_cons (ae_tup (aa_cons ae_int aa_nil)) aa_nil))) (aa_cons (ae_tup (aa_cons (ae_add false (ae_sl false (ae_var 7) (ao_some ae_int) ao_none) (ae_tup (aa_cons (ae_var 2) (aa_cons (ae_var 3) aa_nil)))) (aa_cons (ae_tup (aa_cons ae_int (aa_cons ae_int aa_nil))) aa_nil))) (aa_cons (ae_tup (aa_cons (ae_add false (ae_add false (ae_var 6) (ae_var 7)) (ae_tup (aa_cons (ae_var 2) aa_nil))) (aa_cons (ae_tup (aa_cons ae_int aa_nil)) aa_nil))) aa_nil))))))
    (ass_cons (as_expr (ae_append (ae_var 8) (aa_cons (ae_tup (aa_cons (ae_add false (ae_var 6) (ae_tup (aa_cons (ae_tup (aa_cons ae_str (aa_cons (ae_tup (aa_cons (ae_tup (aa_cons ae_str (aa_cons ae_int (aa_cons (ae_tup (aa_cons (ae_var 2) (aa_cons (ae_var 3) aa_nil))) aa_nil)))) aa_nil)) aa_nil))) (aa_cons (ae_var 3) aa_nil)))) (aa_cons (ae_add false (ae_tup (aa_cons (ae_var 5) aa_nil)) (ae_mulTA (ae_tup (aa_cons ae_int aa_nil)) ae_int)) aa_nil))) aa_nil)))
    (ass_one (as_ret (ae_eq c (ae_lc false (own := [("_law_deeds", 9), ("_law_seat", 10)]) c (ai_list (ae_var 8)) (show BlkOk N__law_order_right (defScope s__law_order_right) _ [("_law_deeds", 9), ("_law_seat", 10)] from ⟨rfl, by decide +kernel, by decide +kernel, by decide +kernel, by decide +kernel⟩) (gw_tup (is := [9, 10]) (by decide)) (fun s H C cl fp => pg_tup c.calm (pgs_cons (pg_name (i := 9) c.nd rfl (by first | exact Or.inl rfl | exact Or.inr rfl)) (pgs_cons (pg_name (i := 10) c.nd rfl (by first | exact Or.inl rfl | exact Or.inr rfl)) pgs_nil))) (fun s H C cl fp c => ats_one (at_ne c (ae_call c C__law_told (by decide) (by decide) (aa_cons (ae_var 9) (aa_cons (ae_var 1) aa_nil))) (ae_tup (aa_cons ae_str (aa_cons (ae_var 10) aa_nil))))) (fun s H C cl fp c => ae_int)) (ae_lst false aa_nil)))))))))))
theorem d_law {z : Ad} (T : Txt K mg z) (C__law_actions_right : Cal false P w K mg base "_law_actions_right" 40 2 [] (fun ds _ => ds) (S__law_actions_right z)) (C__law_bytes_right : Cal false P w K mg base "_law_bytes_right" 40 2 [] (fun ds _ => ds) (S__law_bytes_right z)) (C__law_depth_right : Cal false P w K mg base "_law_depth_right" 40 2 [] (fun ds _ => ds) (S__law_depth_right z)) (C__law_order_right : Cal false P w K mg base "_law_order_right" 40 2 [] (fun ds _ => ds) (S__law_order_right z)) (C__law_pen : Cal false P w K mg base "_law_pen" 1 1 [] (fun ds _ => ds) (F1.S__law_pen z)) (C__law_points_right : Cal false P w K mg base "_law_points_right" 40 2 [] (fun ds _ => ds) (S__law_points_right z)) (C__law_told : Cal false P w K mg base "_law_told" 39 2 [] (fun ds _ => ds) (S__law_told z)) {f : Addr} (cdv : Value) (A : Around) (outer : List PySem.Env) (s : Shared) (H : Hp) (E : XK) (c : Cg false (cxOf (L2.CX P w) P w K mg base N_law "law" (defScope s_law) f cdv A outer s H E) E 40) :
    ASs (cxOf (L2.CX P w) P w K mg base N_law "law" (defScope s_law) f cdv A outer s H E) E (defBody s_law) (w_law z) :=
  (ass_cons (as_set 1 c.nd (ae_call c C__law_pen (by decide) (by decide) (aa_cons (ae_var 0) aa_nil)))
    (ass_cons (as_for c (ai_tup (ae_tup (aa_cons ae_bl (aa_cons ae_bl aa_nil)))) (ag_name 2 c.nd) (ass_cons (as_if (AW.at (aw_or (at_not (at_val (ae_call c C__law_actions_right (by decide) (by decide) (aa_cons (ae_var 1) (aa_cons (ae_var 2) aa_nil))))) (aw_or1 (at_not (at_val (ae_call c C__law_depth_right (by decide) (by decide) (aa_cons (ae_var 1) (aa_cons (ae_var 2) aa_nil)))))))) (ass_one (as_ret ae_bl)) ass_nil)
    (ass_cons (as_if (at_not (at_val (ae_call c C__law_order_right (by decide) (by decide) (aa_cons (ae_var 1) (aa_cons (ae_var 2) aa_nil))))) (ass_one (as_ret ae_bl)) ass_nil)
    (ass_one (as_if (AW.at (aw_or (at_not (at_val (ae_call c C__law_points_right (by decide) (by decide) (aa_cons (ae_var 1) (aa_cons (ae_var 2) aa_nil))))) (aw_or1 (at_not (at_val (ae_call c C__law_bytes_right (by decide) (by decide) (aa_cons (ae_var 1) (aa_cons (ae_var 2) aa_nil)))))))) (ass_one (as_ret ae_bl)) ass_nil)))))
    (ass_one (as_ret (ae_eq c (ae_call c C__law_told (by decide) (by decide) (aa_cons (ae_tup (aa_cons (ae_tup (aa_cons ae_str (aa_cons ae_int aa_nil))) (aa_cons (ae_tup (aa_cons ae_str aa_nil)) aa_nil))) (aa_cons ae_bl aa_nil))) (ae_tup (aa_cons ae_str (aa_cons ae_int aa_nil))))))))
theorem grp_1 {z : Ad} (T : Txt K mg z) (C_inner_of : Cal false P w K mg base "inner_of" 1 1 [] (fun ds _ => ds) (PK.S_inner_of z)) (C_is_head : Cal false P w K mg base "is_head" 3 1 [] (fun ds _ => ds) (PK.S_is_head z))  {f_wrong_in : Addr} {fd_wrong_in : FuncData} (F_wrong_in : L2.Fun K "wrong_in" "wrong_in" s_wrong_in f_wrong_in fd_wrong_in) (m_wrong_in : mg "wrong_in" = some (.ref f_wrong_in)) (k_wrong_in : PySem.W.keepIn K (.ref f_wrong_in) = true) (B_C_wrong_in : Bnd K fd_wrong_in ["body", "place", "count"] 3 [] (fun ds _ => ds)) : ∀ n, FnG false P w K mg base (3 + n) f_wrong_in fd_wrong_in ["body", "place", "count"] (PX.S_wrong_in z n) := by
  intro n
  induction n with
  | zero => exact fng_none (PX.no_wrong_in z)
  | succ n ih =>
    have g_wrong_in := ih
    have C_wrong_in : Cal false P w K mg base "wrong_in" (3 + n) 3 [] (fun ds _ => ds) (PX.S_wrong_in z n) := ⟨⟨f_wrong_in, _, _, m_wrong_in, k_wrong_in, g_wrong_in, B_C_wrong_in⟩⟩
    exact fng_of F_wrong_in sc_wrong_in (PX.len_wrong_in z (n + 1)) (PX.mo_wrong_in z (n + 1)) (fun cdv A outer s H E c => d_wrong_in T n C_inner_of C_is_head C_wrong_in cdv A outer s H E c) (PX.p_wrong_in z n)
theorem grp_2 {z : Ad} (T : Txt K mg z) (C_inner_of : Cal false P w K mg base "inner_of" 1 1 [] (fun ds _ => ds) (PK.S_inner_of z))  {f_size_in : Addr} {fd_size_in : FuncData} (F_size_in : L2.Fun K "size_in" "size_in" s_size_in f_size_in fd_size_in) (m_size_in : mg "size_in" = some (.ref f_size_in)) (k_size_in : PySem.W.keepIn K (.ref f_size_in) = true) (B_C_size_in : Bnd K fd_size_in ["body"] 1 [] (fun ds _ => ds)) : ∀ n, FnG false P w K mg base (1 + n) f_size_in fd_size_in ["body"] (PK.S_size_in z n) := by
  intro n
  induction n with
  | zero => exact fng_none (PK.no_size_in z)
  | succ n ih =>
    have g_size_in := ih
    have C_size_in : Cal false P w K mg base "size_in" (1 + n) 1 [] (fun ds _ => ds) (PK.S_size_in z n) := ⟨⟨f_size_in, _, _, m_size_in, k_size_in, g_size_in, B_C_size_in⟩⟩
    exact fng_of F_size_in sc_size_in (PK.len_size_in z (n + 1)) (PK.mo_size_in z (n + 1)) (fun cdv A outer s H E c => d_size_in T n C_inner_of C_size_in cdv A outer s H E c) (PK.p_size_in z n)
theorem grp_3 {z : Ad} (T : Txt K mg z) (C_bytes_of : Cal false P w K mg base "bytes_of" 1 1 [] (fun ds _ => ds) (PK.S_bytes_of z))  {f_bytes_in : Addr} {fd_bytes_in : FuncData} (F_bytes_in : L2.Fun K "bytes_in" "bytes_in" s_bytes_in f_bytes_in fd_bytes_in) (m_bytes_in : mg "bytes_in" = some (.ref f_bytes_in)) (k_bytes_in : PySem.W.keepIn K (.ref f_bytes_in) = true) (B_C_bytes_in : Bnd K fd_bytes_in ["body"] 1 [] (fun ds _ => ds)) : ∀ n, FnG false P w K mg base (1 + n) f_bytes_in fd_bytes_in ["body"] (PK.S_bytes_in z n) := by
  intro n
  induction n with
  | zero => exact fng_none (PK.no_bytes_in z)
  | succ n ih =>
    have g_bytes_in := ih
    have C_bytes_in : Cal false P w K mg base "bytes_in" (1 + n) 1 [] (fun ds _ => ds) (PK.S_bytes_in z n) := ⟨⟨f_bytes_in, _, _, m_bytes_in, k_bytes_in, g_bytes_in, B_C_bytes_in⟩⟩
    exact fng_of F_bytes_in sc_bytes_in (PK.len_bytes_in z (n + 1)) (PK.mo_bytes_in z (n + 1)) (fun cdv A outer s H E c => d_bytes_in T n C_bytes_in C_bytes_of cdv A outer s H E c) (PK.p_bytes_in z n)
theorem grp_4 {z : Ad} (T : Txt K mg z) (C_bytes_in : Cal false P w K mg base "bytes_in" 17 1 [] (fun ds _ => ds) (PK.S_bytes_in z 16)) (C_bytes_of : Cal false P w K mg base "bytes_of" 1 1 [] (fun ds _ => ds) (PK.S_bytes_of z))  {f_reach_in : Addr} {fd_reach_in : FuncData} (F_reach_in : L2.Fun K "reach_in" "reach_in" s_reach_in f_reach_in fd_reach_in) (m_reach_in : mg "reach_in" = some (.ref f_reach_in)) (k_reach_in : PySem.W.keepIn K (.ref f_reach_in) = true) (B_C_reach_in : Bnd K fd_reach_in ["body"] 1 [] (fun ds _ => ds)) : ∀ n, FnG false P w K mg base (17 + n) f_reach_in fd_reach_in ["body"] (PK.S_reach_in z n) := by
  intro n
  induction n with
  | zero => exact fng_none (PK.no_reach_in z)
  | succ n ih =>
    have g_reach_in := ih
    have C_reach_in : Cal false P w K mg base "reach_in" (17 + n) 1 [] (fun ds _ => ds) (PK.S_reach_in z n) := ⟨⟨f_reach_in, _, _, m_reach_in, k_reach_in, g_reach_in, B_C_reach_in⟩⟩
    exact fng_of F_reach_in sc_reach_in (PK.len_reach_in z (n + 1)) (PK.mo_reach_in z (n + 1)) (fun cdv A outer s H E c => d_reach_in T n C_bytes_in C_bytes_of C_reach_in cdv A outer s H E c) (PK.p_reach_in z n)
end
end K03
namespace K03
open PySem PySem.Spec L2 C8 DL PK PK F1 PX PyProof.Rows
/-! ### what the top has written, and the law's head (printed by gen4.py) -/
theorem all_mk {l : PySem.W.OpenLaw} {w : World} {K : PySem.W.Frag} {h : Heap} {mg : Str → Option Value} {fa : Addr} (X : K.In h) (G : h.Ns mainGlobals mg) (hfa : mg "law" = some (.ref fa))
    {f0 : Addr} {od0 an0 : Option Addr} {sl0 : Array (Option Value)} {oc0 kV0 dc0 pm0 cd0 ct0 : Value}
    {f1 : Addr} {od1 an1 : Option Addr} {sl1 : Array (Option Value)} {oc1 kV1 dc1 pm1 cd1 ct1 : Value}
    {f2 : Addr} {od2 an2 : Option Addr} {sl2 : Array (Option Value)} {oc2 kV2 dc2 pm2 cd2 ct2 : Value}
    {f3 : Addr} {od3 an3 : Option Addr} {sl3 : Array (Option Value)} {oc3 kV3 dc3 pm3 cd3 ct3 : Value}
    {f4 : Addr} {od4 an4 : Option Addr} {sl4 : Array (Option Value)} {oc4 kV4 dc4 pm4 cd4 ct4 : Value}
    {f5 : Addr} {od5 an5 : Option Addr} {sl5 : Array (Option Value)} {oc5 kV5 dc5 pm5 cd5 ct5 : Value}
    {f6 : Addr} {od6 an6 : Option Addr} {sl6 : Array (Option Value)} {oc6 kV6 dc6 pm6 cd6 ct6 : Value}
    {f7 : Addr} {od7 an7 : Option Addr} {sl7 : Array (Option Value)} {oc7 kV7 dc7 pm7 cd7 ct7 : Value}
    {f8 : Addr} {od8 an8 : Option Addr} {sl8 : Array (Option Value)} {oc8 kV8 dc8 pm8 cd8 ct8 : Value}
    {f9 : Addr} {od9 an9 : Option Addr} {sl9 : Array (Option Value)} {oc9 kV9 dc9 pm9 cd9 ct9 : Value}
    {f10 : Addr} {od10 an10 : Option Addr} {sl10 : Array (Option Value)} {oc10 kV10 dc10 pm10 cd10 ct10 : Value}
    {f11 : Addr} {od11 an11 : Option Addr} {sl11 : Array (Option Value)} {oc11 kV11 dc11 pm11 cd11 ct11 : Value}
    {f12 : Addr} {od12 an12 : Option Addr} {sl12 : Array (Option Value)} {oc12 kV12 dc12 pm12 cd12 ct12 : Value}
    {f13 : Addr} {od13 an13 : Option Addr} {sl13 : Array (Option Value)} {oc13 kV13 dc13 pm13 cd13 ct13 : Value}
    {f14 : Addr} {od14 an14 : Option Addr} {sl14 : Array (Option Value)} {oc14 kV14 dc14 pm14 cd14 ct14 : Value}
    {f15 : Addr} {od15 an15 : Option Addr} {sl15 : Array (Option Value)} {oc15 kV15 dc15 pm15 cd15 ct15 : Value}
    {f16 : Addr} {od16 an16 : Option Addr} {sl16 : Array (Option Value)} {oc16 kV16 dc16 pm16 cd16 ct16 : Value}
    {f17 : Addr} {od17 an17 : Option Addr} {sl17 : Array (Option Value)} {oc17 kV17 dc17 pm17 ct17 : Value}
    {f18 : Addr} {od18 an18 : Option Addr} {sl18 : Array (Option Value)} {oc18 kV18 dc18 pm18 cd18 ct18 : Value}
    {f19 : Addr} {od19 an19 : Option Addr} {sl19 : Array (Option Value)} {oc19 kV19 dc19 pm19 cd19 ct19 : Value}
    {f20 : Addr} {od20 an20 : Option Addr} {sl20 : Array (Option Value)} {oc20 kV20 dc20 pm20 cd20 ct20 : Value}
    {f21 : Addr} {od21 an21 : Option Addr} {sl21 : Array (Option Value)} {oc21 kV21 dc21 pm21 cd21 ct21 : Value}
    {f22 : Addr} {od22 an22 : Option Addr} {sl22 : Array (Option Value)} {oc22 kV22 dc22 pm22 cd22 ct22 : Value}
    {f23 : Addr} {od23 an23 : Option Addr} {sl23 : Array (Option Value)} {oc23 kV23 dc23 pm23 cd23 ct23 : Value}
    {f24 : Addr} {od24 an24 : Option Addr} {sl24 : Array (Option Value)} {oc24 kV24 dc24 pm24 cd24 ct24 : Value}
    {f25 : Addr} {od25 an25 : Option Addr} {sl25 : Array (Option Value)} {oc25 kV25 dc25 pm25 cd25 ct25 : Value}
    {f26 : Addr} {od26 an26 : Option Addr} {sl26 : Array (Option Value)} {oc26 kV26 dc26 pm26 cd26 ct26 : Value}
    {A_LineProgram A_Program : Addr}
    {p11 : Addr} {rs11 : List Value}
    {p12 : Addr} {rs12 : List Value}
    {p13 : Addr} {rs13 : List Value}
    {A_AbsentError A_DifferentModes A_EchoError A_InvalidCapacity A_InvalidMode A_InvalidNumber A_InvalidProgram A_NoPlace A_NoPoint A_SizeError A_TooLarge A_TooLong A_TooManyProcesses : Addr}
    {xnm0 xq0 : Str} {xN0 : Addr} {xbs0 xbm0 xsb0 : List Value} {xsn0 : List Str} {xab0 : Bool} {xco0 : Option Bool} {xdd0 : Option Addr} {xk00 xk10 xk20 xk30 xk50 : Option Value}
    {xnm1 xq1 : Str} {xN1 : Addr} {xbs1 xbm1 xsb1 : List Value} {xsn1 : List Str} {xab1 : Bool} {xco1 : Option Bool} {xdd1 : Option Addr} {xk01 xk11 xk21 xk31 xk51 : Option Value}
    {xnm2 xq2 : Str} {xN2 : Addr} {xbs2 xbm2 xsb2 : List Value} {xsn2 : List Str} {xab2 : Bool} {xco2 : Option Bool} {xdd2 : Option Addr} {xk02 xk12 xk22 xk32 xk52 : Option Value}
    {cc0 tp0 : Addr} {qc0 : Value} {qd0 : Option Addr} {qv0 : Array Value} {qs0 : Array (Option Value)}
    (aC0 : PySem.W.nsIn K mainGlobals "LineProgram" = some (some (.ref A_LineProgram))) (pg0 : PySem.W.plainGet K A_LineProgram Str.empty = true) (hd0 : PySem.W.hasDictIn K A_LineProgram = true) (po0 : PySem.W.plainOver K A_LineProgram = true) (sa0 : PySem.W.findIn K (.ref A_LineProgram) "__setattr__" = some (some (.builtin "object.__setattr__"))) (mk0 : PySem.W.makesIn K A_LineProgram = true) (kc0 : PySem.W.keepIn K (.ref A_LineProgram) = true) (sf0 : PySem.W.selfFirst K A_LineProgram = true)
    (nf0 : PySem.W.findIn K (.ref A_LineProgram) "held" = some none)
    (aC1 : PySem.W.nsIn K mainGlobals "Program" = some (some (.ref A_Program))) (pg1 : PySem.W.plainGet K A_Program Str.empty = true) (hd1 : PySem.W.hasDictIn K A_Program = true) (po1 : PySem.W.plainOver K A_Program = true) (sa1 : PySem.W.findIn K (.ref A_Program) "__setattr__" = some (some (.builtin "object.__setattr__"))) (mk1 : PySem.W.makesIn K A_Program = true) (kc1 : PySem.W.keepIn K (.ref A_Program) = true) (sf1 : PySem.W.selfFirst K A_Program = true)
    (nf1 : PySem.W.findIn K (.ref A_Program) "held" = some none)
    (xa0 : PySem.W.nsIn K mainGlobals "AbsentError" = some (some (.ref A_AbsentError)))
    (xa1 : PySem.W.nsIn K mainGlobals "DifferentModes" = some (some (.ref A_DifferentModes)))
    (xa2 : PySem.W.nsIn K mainGlobals "EchoError" = some (some (.ref A_EchoError)))
    (xa3 : PySem.W.nsIn K mainGlobals "InvalidCapacity" = some (some (.ref A_InvalidCapacity)))
    (xa4 : PySem.W.nsIn K mainGlobals "InvalidMode" = some (some (.ref A_InvalidMode)))
    (xa5 : PySem.W.nsIn K mainGlobals "InvalidNumber" = some (some (.ref A_InvalidNumber)))
    (xa6 : PySem.W.nsIn K mainGlobals "InvalidProgram" = some (some (.ref A_InvalidProgram)))
    (xa7 : PySem.W.nsIn K mainGlobals "NoPlace" = some (some (.ref A_NoPlace)))
    (xa8 : PySem.W.nsIn K mainGlobals "NoPoint" = some (some (.ref A_NoPoint)))
    (xa9 : PySem.W.nsIn K mainGlobals "SizeError" = some (some (.ref A_SizeError)))
    (xa10 : PySem.W.nsIn K mainGlobals "TooLarge" = some (some (.ref A_TooLarge)))
    (xa11 : PySem.W.nsIn K mainGlobals "TooLong" = some (some (.ref A_TooLong)))
    (xa12 : PySem.W.nsIn K mainGlobals "TooManyProcesses" = some (some (.ref A_TooManyProcesses)))
    (xl0 : K.lookup A_InvalidProgram = some (excClassObj xnm0 xq0 A_InvalidProgram xN0 xbs0 xbm0 true xsn0 xsb0 xab0 xco0 xdd0 xk00 xk10 xk20 xk30 xk50 "ValueError.__new__")) (rx0 : PySem.W.excTail [.type "ValueError", .type "Exception", .type "BaseException", .type "object"] xbm0 = true) (xs0 : PySem.W.findIn K (.ref A_InvalidProgram) "__setattr__" = some (some (.builtin "object.__setattr__"))) (xi0 : PySem.W.findIn K (.ref A_InvalidProgram) "__init__" = some (some (.ref f24))) (xj0 : PySem.W.typeIn K (.ref f24) = some (.type "function"))
    (xn0_0 : PySem.W.findIn K (.ref A_InvalidProgram) "place" = some none)
    (xl1 : K.lookup A_TooLarge = some (excClassObj xnm1 xq1 A_TooLarge xN1 xbs1 xbm1 true xsn1 xsb1 xab1 xco1 xdd1 xk01 xk11 xk21 xk31 xk51 "OverflowError.__new__")) (rx1 : PySem.W.excTail [.type "OverflowError", .type "ArithmeticError", .type "Exception", .type "BaseException", .type "object"] xbm1 = true) (xs1 : PySem.W.findIn K (.ref A_TooLarge) "__setattr__" = some (some (.builtin "object.__setattr__"))) (xi1 : PySem.W.findIn K (.ref A_TooLarge) "__init__" = some (some (.ref f25))) (xj1 : PySem.W.typeIn K (.ref f25) = some (.type "function"))
    (xn1_0 : PySem.W.findIn K (.ref A_TooLarge) "points" = some none)
    (xl2 : K.lookup A_TooLong = some (excClassObj xnm2 xq2 A_TooLong xN2 xbs2 xbm2 true xsn2 xsb2 xab2 xco2 xdd2 xk02 xk12 xk22 xk32 xk52 "OverflowError.__new__")) (rx2 : PySem.W.excTail [.type "OverflowError", .type "ArithmeticError", .type "Exception", .type "BaseException", .type "object"] xbm2 = true) (xs2 : PySem.W.findIn K (.ref A_TooLong) "__setattr__" = some (some (.builtin "object.__setattr__"))) (xi2 : PySem.W.findIn K (.ref A_TooLong) "__init__" = some (some (.ref f26))) (xj2 : PySem.W.typeIn K (.ref f26) = some (.type "function"))
    (xn2_0 : PySem.W.findIn K (.ref A_TooLong) "length" = some none)
    (xb0 : PySem.W.subIn K (.ref A_DifferentModes) (.type "BaseException") = some true)
    (xb1 : PySem.W.subIn K (.ref A_InvalidMode) (.type "BaseException") = some true)
    (xb2 : PySem.W.subIn K (.ref A_InvalidNumber) (.type "BaseException") = some true)
    (xb3 : PySem.W.subIn K (.ref A_InvalidProgram) (.type "BaseException") = some true)
    (xb4 : PySem.W.subIn K (.ref A_NoPlace) (.type "BaseException") = some true)
    (xb5 : PySem.W.subIn K (.ref A_TooLarge) (.type "BaseException") = some true)
    (xb6 : PySem.W.subIn K (.ref A_TooLong) (.type "BaseException") = some true)
    (xy0 : PySem.W.typeIn K (.ref A_InvalidProgram) = some (.type "type")) (xk0 : PySem.W.keepIn K (.ref A_InvalidProgram) = true)
    (xy1 : PySem.W.typeIn K (.ref A_TooLarge) = some (.type "type")) (xk1 : PySem.W.keepIn K (.ref A_TooLarge) = true)
    (xy2 : PySem.W.typeIn K (.ref A_TooLong) = some (.type "type")) (xk2 : PySem.W.keepIn K (.ref A_TooLong) = true)
    (vn : PySem.W.specialIn K (.builtin "object.__class__") "__get__" = some (some (.builtin "getset_descriptor.__get__"))) (vt : PySem.W.takesIn K (.builtin "object.__class__") = some true)
    (wb0 : PySem.W.subIn K (.ref A_EchoError) (.type "BaseException") = some true) (wd0 : PySem.W.hasDictIn K A_EchoError = true) (wy0 : PySem.W.typeIn K (.ref A_EchoError) = some (.type "type"))
    (wb1 : PySem.W.subIn K (.ref A_SizeError) (.type "BaseException") = some true) (wd1 : PySem.W.hasDictIn K A_SizeError = true) (wy1 : PySem.W.typeIn K (.ref A_SizeError) = some (.type "type"))
    (wb2 : PySem.W.subIn K (.ref A_AbsentError) (.type "BaseException") = some true) (wd2 : PySem.W.hasDictIn K A_AbsentError = true) (wy2 : PySem.W.typeIn K (.ref A_AbsentError) = some (.type "type"))
    (va0 : PySem.W.findIn K (.ref A_InvalidProgram) "__getattribute__" = some (some (.builtin "BaseException.__getattribute__"))) (vg0 : PySem.W.findIn K (.ref A_InvalidProgram) "__getattr__" = some none) (vd0 : PySem.W.hasDictIn K A_InvalidProgram = true) (vc0 : PySem.W.findIn K (.ref A_InvalidProgram) "__class__" = some (some (.builtin "object.__class__"))) (vm0 : PySem.W.mroIn K A_InvalidProgram (.type "object") = some true)
    (ve0_0 : PySem.W.subIn K (.ref A_InvalidProgram) (.ref A_EchoError) = some true) (ve0_1 : PySem.W.subIn K (.ref A_InvalidProgram) (.ref A_SizeError) = some false) (ve0_2 : PySem.W.subIn K (.ref A_InvalidProgram) (.ref A_AbsentError) = some false)
    (vk0_0 : PySem.W.kitOne K (.ref A_InvalidProgram) (.ref A_DifferentModes) = some false) (vk0_1 : PySem.W.kitOne K (.ref A_InvalidProgram) (.ref A_InvalidCapacity) = some false) (vk0_2 : PySem.W.kitOne K (.ref A_InvalidProgram) (.ref A_InvalidMode) = some false) (vk0_3 : PySem.W.kitOne K (.ref A_InvalidProgram) (.ref A_InvalidNumber) = some false) (vk0_4 : PySem.W.kitOne K (.ref A_InvalidProgram) (.ref A_InvalidProgram) = some true) (vk0_5 : PySem.W.kitOne K (.ref A_InvalidProgram) (.type "LookupError") = some false) (vk0_6 : PySem.W.kitOne K (.ref A_InvalidProgram) (.ref A_NoPlace) = some false) (vk0_7 : PySem.W.kitOne K (.ref A_InvalidProgram) (.ref A_NoPoint) = some false) (vk0_8 : PySem.W.kitOne K (.ref A_InvalidProgram) (.type "OverflowError") = some false) (vk0_9 : PySem.W.kitOne K (.ref A_InvalidProgram) (.ref A_TooLarge) = some false) (vk0_10 : PySem.W.kitOne K (.ref A_InvalidProgram) (.ref A_TooLong) = some false) (vk0_11 : PySem.W.kitOne K (.ref A_InvalidProgram) (.ref A_TooManyProcesses) = some false) (vk0_12 : PySem.W.kitOne K (.ref A_InvalidProgram) (.type "ValueError") = some true)
    (vf0_0 : PySem.W.findIn K (.ref A_InvalidProgram) "place" = some none)
    (va1 : PySem.W.findIn K (.ref A_NoPlace) "__getattribute__" = some (some (.builtin "BaseException.__getattribute__"))) (vg1 : PySem.W.findIn K (.ref A_NoPlace) "__getattr__" = some none) (vd1 : PySem.W.hasDictIn K A_NoPlace = true) (vc1 : PySem.W.findIn K (.ref A_NoPlace) "__class__" = some (some (.builtin "object.__class__"))) (vm1 : PySem.W.mroIn K A_NoPlace (.type "object") = some true)
    (ve1_0 : PySem.W.subIn K (.ref A_NoPlace) (.ref A_EchoError) = some false) (ve1_1 : PySem.W.subIn K (.ref A_NoPlace) (.ref A_SizeError) = some false) (ve1_2 : PySem.W.subIn K (.ref A_NoPlace) (.ref A_AbsentError) = some true)
    (vk1_0 : PySem.W.kitOne K (.ref A_NoPlace) (.ref A_DifferentModes) = some false) (vk1_1 : PySem.W.kitOne K (.ref A_NoPlace) (.ref A_InvalidCapacity) = some false) (vk1_2 : PySem.W.kitOne K (.ref A_NoPlace) (.ref A_InvalidMode) = some false) (vk1_3 : PySem.W.kitOne K (.ref A_NoPlace) (.ref A_InvalidNumber) = some false) (vk1_4 : PySem.W.kitOne K (.ref A_NoPlace) (.ref A_InvalidProgram) = some false) (vk1_5 : PySem.W.kitOne K (.ref A_NoPlace) (.type "LookupError") = some true) (vk1_6 : PySem.W.kitOne K (.ref A_NoPlace) (.ref A_NoPlace) = some true) (vk1_7 : PySem.W.kitOne K (.ref A_NoPlace) (.ref A_NoPoint) = some false) (vk1_8 : PySem.W.kitOne K (.ref A_NoPlace) (.type "OverflowError") = some false) (vk1_9 : PySem.W.kitOne K (.ref A_NoPlace) (.ref A_TooLarge) = some false) (vk1_10 : PySem.W.kitOne K (.ref A_NoPlace) (.ref A_TooLong) = some false) (vk1_11 : PySem.W.kitOne K (.ref A_NoPlace) (.ref A_TooManyProcesses) = some false) (vk1_12 : PySem.W.kitOne K (.ref A_NoPlace) (.type "ValueError") = some false)
    (vf1_0 : PySem.W.findIn K (.ref A_NoPlace) "place" = some none)
    (va2 : PySem.W.findIn K (.ref A_TooLarge) "__getattribute__" = some (some (.builtin "BaseException.__getattribute__"))) (vg2 : PySem.W.findIn K (.ref A_TooLarge) "__getattr__" = some none) (vd2 : PySem.W.hasDictIn K A_TooLarge = true) (vc2 : PySem.W.findIn K (.ref A_TooLarge) "__class__" = some (some (.builtin "object.__class__"))) (vm2 : PySem.W.mroIn K A_TooLarge (.type "object") = some true)
    (ve2_0 : PySem.W.subIn K (.ref A_TooLarge) (.ref A_EchoError) = some false) (ve2_1 : PySem.W.subIn K (.ref A_TooLarge) (.ref A_SizeError) = some true) (ve2_2 : PySem.W.subIn K (.ref A_TooLarge) (.ref A_AbsentError) = some false)
    (vk2_0 : PySem.W.kitOne K (.ref A_TooLarge) (.ref A_DifferentModes) = some false) (vk2_1 : PySem.W.kitOne K (.ref A_TooLarge) (.ref A_InvalidCapacity) = some false) (vk2_2 : PySem.W.kitOne K (.ref A_TooLarge) (.ref A_InvalidMode) = some false) (vk2_3 : PySem.W.kitOne K (.ref A_TooLarge) (.ref A_InvalidNumber) = some false) (vk2_4 : PySem.W.kitOne K (.ref A_TooLarge) (.ref A_InvalidProgram) = some false) (vk2_5 : PySem.W.kitOne K (.ref A_TooLarge) (.type "LookupError") = some false) (vk2_6 : PySem.W.kitOne K (.ref A_TooLarge) (.ref A_NoPlace) = some false) (vk2_7 : PySem.W.kitOne K (.ref A_TooLarge) (.ref A_NoPoint) = some false) (vk2_8 : PySem.W.kitOne K (.ref A_TooLarge) (.type "OverflowError") = some true) (vk2_9 : PySem.W.kitOne K (.ref A_TooLarge) (.ref A_TooLarge) = some true) (vk2_10 : PySem.W.kitOne K (.ref A_TooLarge) (.ref A_TooLong) = some false) (vk2_11 : PySem.W.kitOne K (.ref A_TooLarge) (.ref A_TooManyProcesses) = some false) (vk2_12 : PySem.W.kitOne K (.ref A_TooLarge) (.type "ValueError") = some false)
    (vf2_0 : PySem.W.findIn K (.ref A_TooLarge) "points" = some none)
    (va3 : PySem.W.findIn K (.ref A_TooLong) "__getattribute__" = some (some (.builtin "BaseException.__getattribute__"))) (vg3 : PySem.W.findIn K (.ref A_TooLong) "__getattr__" = some none) (vd3 : PySem.W.hasDictIn K A_TooLong = true) (vc3 : PySem.W.findIn K (.ref A_TooLong) "__class__" = some (some (.builtin "object.__class__"))) (vm3 : PySem.W.mroIn K A_TooLong (.type "object") = some true)
    (ve3_0 : PySem.W.subIn K (.ref A_TooLong) (.ref A_EchoError) = some false) (ve3_1 : PySem.W.subIn K (.ref A_TooLong) (.ref A_SizeError) = some true) (ve3_2 : PySem.W.subIn K (.ref A_TooLong) (.ref A_AbsentError) = some false)
    (vk3_0 : PySem.W.kitOne K (.ref A_TooLong) (.ref A_DifferentModes) = some false) (vk3_1 : PySem.W.kitOne K (.ref A_TooLong) (.ref A_InvalidCapacity) = some false) (vk3_2 : PySem.W.kitOne K (.ref A_TooLong) (.ref A_InvalidMode) = some false) (vk3_3 : PySem.W.kitOne K (.ref A_TooLong) (.ref A_InvalidNumber) = some false) (vk3_4 : PySem.W.kitOne K (.ref A_TooLong) (.ref A_InvalidProgram) = some false) (vk3_5 : PySem.W.kitOne K (.ref A_TooLong) (.type "LookupError") = some false) (vk3_6 : PySem.W.kitOne K (.ref A_TooLong) (.ref A_NoPlace) = some false) (vk3_7 : PySem.W.kitOne K (.ref A_TooLong) (.ref A_NoPoint) = some false) (vk3_8 : PySem.W.kitOne K (.ref A_TooLong) (.type "OverflowError") = some true) (vk3_9 : PySem.W.kitOne K (.ref A_TooLong) (.ref A_TooLarge) = some false) (vk3_10 : PySem.W.kitOne K (.ref A_TooLong) (.ref A_TooLong) = some true) (vk3_11 : PySem.W.kitOne K (.ref A_TooLong) (.ref A_TooManyProcesses) = some false) (vk3_12 : PySem.W.kitOne K (.ref A_TooLong) (.type "ValueError") = some false)
    (vf3_0 : PySem.W.findIn K (.ref A_TooLong) "length" = some none)
    (va4 : PySem.W.findIn K (.ref A_InvalidNumber) "__getattribute__" = some (some (.builtin "BaseException.__getattribute__"))) (vg4 : PySem.W.findIn K (.ref A_InvalidNumber) "__getattr__" = some none) (vd4 : PySem.W.hasDictIn K A_InvalidNumber = true) (vc4 : PySem.W.findIn K (.ref A_InvalidNumber) "__class__" = some (some (.builtin "object.__class__"))) (vm4 : PySem.W.mroIn K A_InvalidNumber (.type "object") = some true)
    (ve4_0 : PySem.W.subIn K (.ref A_InvalidNumber) (.ref A_EchoError) = some true) (ve4_1 : PySem.W.subIn K (.ref A_InvalidNumber) (.ref A_SizeError) = some false) (ve4_2 : PySem.W.subIn K (.ref A_InvalidNumber) (.ref A_AbsentError) = some false)
    (vk4_0 : PySem.W.kitOne K (.ref A_InvalidNumber) (.ref A_DifferentModes) = some false) (vk4_1 : PySem.W.kitOne K (.ref A_InvalidNumber) (.ref A_InvalidCapacity) = some false) (vk4_2 : PySem.W.kitOne K (.ref A_InvalidNumber) (.ref A_InvalidMode) = some false) (vk4_3 : PySem.W.kitOne K (.ref A_InvalidNumber) (.ref A_InvalidNumber) = some true) (vk4_4 : PySem.W.kitOne K (.ref A_InvalidNumber) (.ref A_InvalidProgram) = some false) (vk4_5 : PySem.W.kitOne K (.ref A_InvalidNumber) (.type "LookupError") = some false) (vk4_6 : PySem.W.kitOne K (.ref A_InvalidNumber) (.ref A_NoPlace) = some false) (vk4_7 : PySem.W.kitOne K (.ref A_InvalidNumber) (.ref A_NoPoint) = some false) (vk4_8 : PySem.W.kitOne K (.ref A_InvalidNumber) (.type "OverflowError") = some false) (vk4_9 : PySem.W.kitOne K (.ref A_InvalidNumber) (.ref A_TooLarge) = some false) (vk4_10 : PySem.W.kitOne K (.ref A_InvalidNumber) (.ref A_TooLong) = some false) (vk4_11 : PySem.W.kitOne K (.ref A_InvalidNumber) (.ref A_TooManyProcesses) = some false) (vk4_12 : PySem.W.kitOne K (.ref A_InvalidNumber) (.type "ValueError") = some true)
    (vf4_0 : PySem.W.findIn K (.ref A_InvalidNumber) "value" = some none)
    (va5 : PySem.W.findIn K (.ref A_InvalidMode) "__getattribute__" = some (some (.builtin "BaseException.__getattribute__"))) (vg5 : PySem.W.findIn K (.ref A_InvalidMode) "__getattr__" = some none) (vd5 : PySem.W.hasDictIn K A_InvalidMode = true) (vc5 : PySem.W.findIn K (.ref A_InvalidMode) "__class__" = some (some (.builtin "object.__class__"))) (vm5 : PySem.W.mroIn K A_InvalidMode (.type "object") = some true)
    (ve5_0 : PySem.W.subIn K (.ref A_InvalidMode) (.ref A_EchoError) = some true) (ve5_1 : PySem.W.subIn K (.ref A_InvalidMode) (.ref A_SizeError) = some false) (ve5_2 : PySem.W.subIn K (.ref A_InvalidMode) (.ref A_AbsentError) = some false)
    (vk5_0 : PySem.W.kitOne K (.ref A_InvalidMode) (.ref A_DifferentModes) = some false) (vk5_1 : PySem.W.kitOne K (.ref A_InvalidMode) (.ref A_InvalidCapacity) = some false) (vk5_2 : PySem.W.kitOne K (.ref A_InvalidMode) (.ref A_InvalidMode) = some true) (vk5_3 : PySem.W.kitOne K (.ref A_InvalidMode) (.ref A_InvalidNumber) = some false) (vk5_4 : PySem.W.kitOne K (.ref A_InvalidMode) (.ref A_InvalidProgram) = some false) (vk5_5 : PySem.W.kitOne K (.ref A_InvalidMode) (.type "LookupError") = some false) (vk5_6 : PySem.W.kitOne K (.ref A_InvalidMode) (.ref A_NoPlace) = some false) (vk5_7 : PySem.W.kitOne K (.ref A_InvalidMode) (.ref A_NoPoint) = some false) (vk5_8 : PySem.W.kitOne K (.ref A_InvalidMode) (.type "OverflowError") = some false) (vk5_9 : PySem.W.kitOne K (.ref A_InvalidMode) (.ref A_TooLarge) = some false) (vk5_10 : PySem.W.kitOne K (.ref A_InvalidMode) (.ref A_TooLong) = some false) (vk5_11 : PySem.W.kitOne K (.ref A_InvalidMode) (.ref A_TooManyProcesses) = some false) (vk5_12 : PySem.W.kitOne K (.ref A_InvalidMode) (.type "ValueError") = some true)
    (vf5_0 : PySem.W.findIn K (.ref A_InvalidMode) "value" = some none)
    (va6 : PySem.W.findIn K (.ref A_DifferentModes) "__getattribute__" = some (some (.builtin "BaseException.__getattribute__"))) (vg6 : PySem.W.findIn K (.ref A_DifferentModes) "__getattr__" = some none) (vd6 : PySem.W.hasDictIn K A_DifferentModes = true) (vc6 : PySem.W.findIn K (.ref A_DifferentModes) "__class__" = some (some (.builtin "object.__class__"))) (vm6 : PySem.W.mroIn K A_DifferentModes (.type "object") = some true)
    (ve6_0 : PySem.W.subIn K (.ref A_DifferentModes) (.ref A_EchoError) = some true) (ve6_1 : PySem.W.subIn K (.ref A_DifferentModes) (.ref A_SizeError) = some false) (ve6_2 : PySem.W.subIn K (.ref A_DifferentModes) (.ref A_AbsentError) = some false)
    (vk6_0 : PySem.W.kitOne K (.ref A_DifferentModes) (.ref A_DifferentModes) = some true) (vk6_1 : PySem.W.kitOne K (.ref A_DifferentModes) (.ref A_InvalidCapacity) = some false) (vk6_2 : PySem.W.kitOne K (.ref A_DifferentModes) (.ref A_InvalidMode) = some false) (vk6_3 : PySem.W.kitOne K (.ref A_DifferentModes) (.ref A_InvalidNumber) = some false) (vk6_4 : PySem.W.kitOne K (.ref A_DifferentModes) (.ref A_InvalidProgram) = some false) (vk6_5 : PySem.W.kitOne K (.ref A_DifferentModes) (.type "LookupError") = some false) (vk6_6 : PySem.W.kitOne K (.ref A_DifferentModes) (.ref A_NoPlace) = some false) (vk6_7 : PySem.W.kitOne K (.ref A_DifferentModes) (.ref A_NoPoint) = some false) (vk6_8 : PySem.W.kitOne K (.ref A_DifferentModes) (.type "OverflowError") = some false) (vk6_9 : PySem.W.kitOne K (.ref A_DifferentModes) (.ref A_TooLarge) = some false) (vk6_10 : PySem.W.kitOne K (.ref A_DifferentModes) (.ref A_TooLong) = some false) (vk6_11 : PySem.W.kitOne K (.ref A_DifferentModes) (.ref A_TooManyProcesses) = some false) (vk6_12 : PySem.W.kitOne K (.ref A_DifferentModes) (.type "ValueError") = some true)
    (a0 : PySem.W.nsIn K mainGlobals "is_integer" = some (some (.ref f0))) (l0 : K.lookup f0 = some ⟨oc0, od0, .func (PySem.W.fnOf "is_integer" "is_integer" (defArgs s_is_integer) (defBody s_is_integer) (defScope s_is_integer) .none kV0 dc0 pm0 an0 cd0 ct0), sl0⟩) (c0 : PySem.W.codeIn K cd0 "is_integer" = true) (k0 : PySem.W.keepIn K (.ref f0) = true)
    (a1 : PySem.W.nsIn K mainGlobals "is_between" = some (some (.ref f1))) (l1 : K.lookup f1 = some ⟨oc1, od1, .func (PySem.W.fnOf "is_between" "is_between" (defArgs s_is_between) (defBody s_is_between) (defScope s_is_between) .none kV1 dc1 pm1 an1 cd1 ct1), sl1⟩) (c1 : PySem.W.codeIn K cd1 "is_between" = true) (k1 : PySem.W.keepIn K (.ref f1) = true)
    (a2 : PySem.W.nsIn K mainGlobals "is_head" = some (some (.ref f2))) (l2 : K.lookup f2 = some ⟨oc2, od2, .func (PySem.W.fnOf "is_head" "is_head" (defArgs s_is_head) (defBody s_is_head) (defScope s_is_head) .none kV2 dc2 pm2 an2 cd2 ct2), sl2⟩) (c2 : PySem.W.codeIn K cd2 "is_head" = true) (k2 : PySem.W.keepIn K (.ref f2) = true)
    (a3 : PySem.W.nsIn K mainGlobals "inner_of" = some (some (.ref f3))) (l3 : K.lookup f3 = some ⟨oc3, od3, .func (PySem.W.fnOf "inner_of" "inner_of" (defArgs s_inner_of) (defBody s_inner_of) (defScope s_inner_of) .none kV3 dc3 pm3 an3 cd3 ct3), sl3⟩) (c3 : PySem.W.codeIn K cd3 "inner_of" = true) (k3 : PySem.W.keepIn K (.ref f3) = true)
    (a4 : PySem.W.nsIn K mainGlobals "bytes_of" = some (some (.ref f4))) (l4 : K.lookup f4 = some ⟨oc4, od4, .func (PySem.W.fnOf "bytes_of" "bytes_of" (defArgs s_bytes_of) (defBody s_bytes_of) (defScope s_bytes_of) .none kV4 dc4 pm4 an4 cd4 ct4), sl4⟩) (c4 : PySem.W.codeIn K cd4 "bytes_of" = true) (k4 : PySem.W.keepIn K (.ref f4) = true)
    (a5 : PySem.W.nsIn K mainGlobals "wrong_in" = some (some (.ref f5))) (l5 : K.lookup f5 = some ⟨oc5, od5, .func (PySem.W.fnOf "wrong_in" "wrong_in" (defArgs s_wrong_in) (defBody s_wrong_in) (defScope s_wrong_in) .none kV5 dc5 pm5 an5 cd5 ct5), sl5⟩) (c5 : PySem.W.codeIn K cd5 "wrong_in" = true) (k5 : PySem.W.keepIn K (.ref f5) = true)
    (a6 : PySem.W.nsIn K mainGlobals "first_wrong" = some (some (.ref f6))) (l6 : K.lookup f6 = some ⟨oc6, od6, .func (PySem.W.fnOf "first_wrong" "first_wrong" (defArgs s_first_wrong) (defBody s_first_wrong) (defScope s_first_wrong) .none kV6 dc6 pm6 an6 cd6 ct6), sl6⟩) (c6 : PySem.W.codeIn K cd6 "first_wrong" = true) (k6 : PySem.W.keepIn K (.ref f6) = true)
    (a7 : PySem.W.nsIn K mainGlobals "size_in" = some (some (.ref f7))) (l7 : K.lookup f7 = some ⟨oc7, od7, .func (PySem.W.fnOf "size_in" "size_in" (defArgs s_size_in) (defBody s_size_in) (defScope s_size_in) .none kV7 dc7 pm7 an7 cd7 ct7), sl7⟩) (c7 : PySem.W.codeIn K cd7 "size_in" = true) (k7 : PySem.W.keepIn K (.ref f7) = true)
    (a8 : PySem.W.nsIn K mainGlobals "bytes_in" = some (some (.ref f8))) (l8 : K.lookup f8 = some ⟨oc8, od8, .func (PySem.W.fnOf "bytes_in" "bytes_in" (defArgs s_bytes_in) (defBody s_bytes_in) (defScope s_bytes_in) .none kV8 dc8 pm8 an8 cd8 ct8), sl8⟩) (c8 : PySem.W.codeIn K cd8 "bytes_in" = true) (k8 : PySem.W.keepIn K (.ref f8) = true)
    (a9 : PySem.W.nsIn K mainGlobals "reach_in" = some (some (.ref f9))) (l9 : K.lookup f9 = some ⟨oc9, od9, .func (PySem.W.fnOf "reach_in" "reach_in" (defArgs s_reach_in) (defBody s_reach_in) (defScope s_reach_in) .none kV9 dc9 pm9 an9 cd9 ct9), sl9⟩) (c9 : PySem.W.codeIn K cd9 "reach_in" = true) (k9 : PySem.W.keepIn K (.ref f9) = true)
    (a10_LineProgram : PySem.W.findIn K (.ref A_LineProgram) "__init__" = some (some (.ref f10))) (a10_Program : PySem.W.findIn K (.ref A_Program) "__init__" = some (some (.ref f10))) (i10 : PySem.W.isFn K (.ref f10) = true) (j10 : PySem.W.fnIn K f10 = true) (l10 : K.lookup f10 = some ⟨oc10, od10, .func (PySem.W.fnOf "__init__" "Program.__init__" (defArgs s_Program___init__) (defBody s_Program___init__) (defScope s_Program___init__) .none kV10 dc10 pm10 an10 cd10 ct10), sl10⟩) (c10 : PySem.W.codeIn K cd10 "Program.__init__" = true) (k10 : PySem.W.keepIn K (.ref f10) = true)
    (rd11_LineProgram : PySem.W.readsIn K A_LineProgram (.type "type") = true) (ga11_LineProgram : PySem.W.specialIn K (.ref A_LineProgram) "__getattribute__" = some (some (.builtin "type.__getattribute__"))) (a11_LineProgram : PySem.W.findCls K (.ref A_LineProgram) (.type "type") "of" = some (.get (.builtin "classmethod.__get__") (.ref p11) .none (.ref A_LineProgram))) (rd11_Program : PySem.W.readsIn K A_Program (.type "type") = true) (ga11_Program : PySem.W.specialIn K (.ref A_Program) "__getattribute__" = some (some (.builtin "type.__getattribute__"))) (a11_Program : PySem.W.findCls K (.ref A_Program) (.type "type") "of" = some (.get (.builtin "classmethod.__get__") (.ref p11) .none (.ref A_Program))) (pc11 : PySem.W.recIn K p11 "classmethod" = some (.ref f11 :: rs11)) (j11 : PySem.W.fnIn K f11 = true) (l11 : K.lookup f11 = some ⟨oc11, od11, .func (PySem.W.fnOf "of" "Program.of" (defArgs s_Program_of) (defBody s_Program_of) (defScope s_Program_of) .none kV11 dc11 pm11 an11 cd11 ct11), sl11⟩) (c11 : PySem.W.codeIn K cd11 "Program.of" = true) (k11 : PySem.W.keepIn K (.ref f11) = true)
    (a12_LineProgram : PySem.W.findIn K (.ref A_LineProgram) "size" = some (some (.ref p12))) (a12_Program : PySem.W.findIn K (.ref A_Program) "size" = some (some (.ref p12))) (pa12 : PySem.W.specialIn K (.ref p12) "__get__" = some (some (.builtin "property.__get__"))) (pb12 : PySem.W.takesIn K (.ref p12) = some true) (pc12 : PySem.W.recIn K p12 "property" = some (.ref f12 :: rs12)) (l12 : K.lookup f12 = some ⟨oc12, od12, .func (PySem.W.fnOf "size" "Program.size" (defArgs s_Program_size) (defBody s_Program_size) (defScope s_Program_size) .none kV12 dc12 pm12 an12 cd12 ct12), sl12⟩) (c12 : PySem.W.codeIn K cd12 "Program.size" = true) (k12 : PySem.W.keepIn K (.ref f12) = true)
    (a13_LineProgram : PySem.W.findIn K (.ref A_LineProgram) "reach" = some (some (.ref p13))) (a13_Program : PySem.W.findIn K (.ref A_Program) "reach" = some (some (.ref p13))) (pa13 : PySem.W.specialIn K (.ref p13) "__get__" = some (some (.builtin "property.__get__"))) (pb13 : PySem.W.takesIn K (.ref p13) = some true) (pc13 : PySem.W.recIn K p13 "property" = some (.ref f13 :: rs13)) (l13 : K.lookup f13 = some ⟨oc13, od13, .func (PySem.W.fnOf "reach" "Program.reach" (defArgs s_Program_reach) (defBody s_Program_reach) (defScope s_Program_reach) .none kV13 dc13 pm13 an13 cd13 ct13), sl13⟩) (c13 : PySem.W.codeIn K cd13 "Program.reach" = true) (k13 : PySem.W.keepIn K (.ref f13) = true)
    (a14 : PySem.W.nsIn K mainGlobals "_law_pen" = some (some (.ref f14))) (l14 : K.lookup f14 = some ⟨oc14, od14, .func (PySem.W.fnOf "_law_pen" "_law_pen" (defArgs s__law_pen) (defBody s__law_pen) (defScope s__law_pen) .none kV14 dc14 pm14 an14 cd14 ct14), sl14⟩) (c14 : PySem.W.codeIn K cd14 "_law_pen" = true) (k14 : PySem.W.keepIn K (.ref f14) = true)
    (a15 : PySem.W.nsIn K mainGlobals "_law_draw" = some (some (.ref f15))) (l15 : K.lookup f15 = some ⟨oc15, od15, .func (PySem.W.fnOf "_law_draw" "_law_draw" (defArgs s__law_draw) (defBody s__law_draw) (defScope s__law_draw) .none kV15 dc15 pm15 an15 cd15 ct15), sl15⟩) (c15 : PySem.W.codeIn K cd15 "_law_draw" = true) (k15 : PySem.W.keepIn K (.ref f15) = true)
    (a16 : PySem.W.nsIn K mainGlobals "_law_heard" = some (some (.ref f16))) (l16 : K.lookup f16 = some ⟨oc16, od16, .func (PySem.W.fnOf "_law_heard" "_law_heard" (defArgs s__law_heard) (defBody s__law_heard) (defScope s__law_heard) .none kV16 dc16 pm16 an16 cd16 ct16), sl16⟩) (c16 : PySem.W.codeIn K cd16 "_law_heard" = true) (k16 : PySem.W.keepIn K (.ref f16) = true)
    (a17 : PySem.W.nsIn K mainGlobals "_law_told" = some (some (.ref f17))) (l17 : K.lookup f17 = some ⟨oc17, od17, .func (PySem.W.fnOf "_law_told" "_law_told" (defArgs s__law_told) (defBody s__law_told) (defScope s__law_told) .none kV17 dc17 pm17 an17 (.ref cc0) ct17), sl17⟩) (c17 : PySem.W.codeIn K (.ref cc0) "_law_told" = true) (k17 : PySem.W.keepIn K (.ref f17) = true) (ty0 : K.lookup cc0 = some ⟨qc0, qd0, .fields qv0, qs0⟩) (rv0 : qv0[11]? = some (.ref tp0)) (tn0 : K.lookup tp0 = none)
    (a18 : PySem.W.nsIn K mainGlobals "_law_actions_right" = some (some (.ref f18))) (l18 : K.lookup f18 = some ⟨oc18, od18, .func (PySem.W.fnOf "_law_actions_right" "_law_actions_right" (defArgs s__law_actions_right) (defBody s__law_actions_right) (defScope s__law_actions_right) .none kV18 dc18 pm18 an18 cd18 ct18), sl18⟩) (c18 : PySem.W.codeIn K cd18 "_law_actions_right" = true) (k18 : PySem.W.keepIn K (.ref f18) = true)
    (a19 : PySem.W.nsIn K mainGlobals "_law_depth_right" = some (some (.ref f19))) (l19 : K.lookup f19 = some ⟨oc19, od19, .func (PySem.W.fnOf "_law_depth_right" "_law_depth_right" (defArgs s__law_depth_right) (defBody s__law_depth_right) (defScope s__law_depth_right) .none kV19 dc19 pm19 an19 cd19 ct19), sl19⟩) (c19 : PySem.W.codeIn K cd19 "_law_depth_right" = true) (k19 : PySem.W.keepIn K (.ref f19) = true)
    (a20 : PySem.W.nsIn K mainGlobals "_law_points_right" = some (some (.ref f20))) (l20 : K.lookup f20 = some ⟨oc20, od20, .func (PySem.W.fnOf "_law_points_right" "_law_points_right" (defArgs s__law_points_right) (defBody s__law_points_right) (defScope s__law_points_right) .none kV20 dc20 pm20 an20 cd20 ct20), sl20⟩) (c20 : PySem.W.codeIn K cd20 "_law_points_right" = true) (k20 : PySem.W.keepIn K (.ref f20) = true)
    (a21 : PySem.W.nsIn K mainGlobals "_law_bytes_right" = some (some (.ref f21))) (l21 : K.lookup f21 = some ⟨oc21, od21, .func (PySem.W.fnOf "_law_bytes_right" "_law_bytes_right" (defArgs s__law_bytes_right) (defBody s__law_bytes_right) (defScope s__law_bytes_right) .none kV21 dc21 pm21 an21 cd21 ct21), sl21⟩) (c21 : PySem.W.codeIn K cd21 "_law_bytes_right" = true) (k21 : PySem.W.keepIn K (.ref f21) = true)
    (a22 : PySem.W.nsIn K mainGlobals "_law_order_right" = some (some (.ref f22))) (l22 : K.lookup f22 = some ⟨oc22, od22, .func (PySem.W.fnOf "_law_order_right" "_law_order_right" (defArgs s__law_order_right) (defBody s__law_order_right) (defScope s__law_order_right) .none kV22 dc22 pm22 an22 cd22 ct22), sl22⟩) (c22 : PySem.W.codeIn K cd22 "_law_order_right" = true) (k22 : PySem.W.keepIn K (.ref f22) = true)
    (a23 : PySem.W.nsIn K mainGlobals "law" = some (some (.ref f23))) (l23 : K.lookup f23 = some ⟨oc23, od23, .func (PySem.W.fnOf "law" "law" (defArgs s_law) (defBody s_law) (defScope s_law) .none kV23 dc23 pm23 an23 cd23 ct23), sl23⟩) (c23 : PySem.W.codeIn K cd23 "law" = true) (k23 : PySem.W.keepIn K (.ref f23) = true)
    (l24 : K.lookup f24 = some ⟨oc24, od24, .func (PySem.W.fnOf "__init__" "InvalidProgram.__init__" (defArgs s_InvalidProgram___init__) (defBody s_InvalidProgram___init__) (defScope s_InvalidProgram___init__) .none kV24 dc24 pm24 an24 cd24 ct24), sl24⟩) (c24 : PySem.W.codeIn K cd24 "InvalidProgram.__init__" = true) (k24 : PySem.W.keepIn K (.ref f24) = true)
    (l25 : K.lookup f25 = some ⟨oc25, od25, .func (PySem.W.fnOf "__init__" "TooLarge.__init__" (defArgs s_TooLarge___init__) (defBody s_TooLarge___init__) (defScope s_TooLarge___init__) .none kV25 dc25 pm25 an25 cd25 ct25), sl25⟩) (c25 : PySem.W.codeIn K cd25 "TooLarge.__init__" = true) (k25 : PySem.W.keepIn K (.ref f25) = true)
    (l26 : K.lookup f26 = some ⟨oc26, od26, .func (PySem.W.fnOf "__init__" "TooLong.__init__" (defArgs s_TooLong___init__) (defBody s_TooLong___init__) (defScope s_TooLong___init__) .none kV26 dc26 pm26 an26 cd26 ct26), sl26⟩) (c26 : PySem.W.codeIn K cd26 "TooLong.__init__" = true) (k26 : PySem.W.keepIn K (.ref f26) = true)
    (z0 : PySem.W.nsIn K mainGlobals "LookupError" = some none)
    (z1 : PySem.W.nsIn K mainGlobals "OverflowError" = some none)
    (z2 : PySem.W.nsIn K mainGlobals "ValueError" = some none)
    (z3 : PySem.W.nsIn K mainGlobals "abs" = some none)
    (z4 : PySem.W.nsIn K mainGlobals "bool" = some none)
    (z5 : PySem.W.nsIn K mainGlobals "enumerate" = some none)
    (z6 : PySem.W.nsIn K mainGlobals "int" = some none)
    (z7 : PySem.W.nsIn K mainGlobals "isinstance" = some none)
    (z8 : PySem.W.nsIn K mainGlobals "len" = some none)
    (z9 : PySem.W.nsIn K mainGlobals "list" = some none)
    (z10 : PySem.W.nsIn K mainGlobals "max" = some none)
    (z11 : PySem.W.nsIn K mainGlobals "min" = some none)
    (z12 : PySem.W.nsIn K mainGlobals "range" = some none)
    (z13 : PySem.W.nsIn K mainGlobals "str" = some none)
    (z14 : PySem.W.nsIn K mainGlobals "tuple" = some none)
    {t0 : Addr} {td0 : Option Addr} {ti0 : Array Value} {tm0 : Nat} {ts0 : Array (Option Value)} (g0 : PySem.W.nsIn K mainGlobals "BARE" = some (some (Value.ref t0))) (gt0 : K.lookup t0 = some ⟨.type "tuple", td0, .seq ti0 tm0, ts0⟩) (gz0 : ti0.size ≤ 1000) (gs0 : strsOf ti0.toList = some [("line" : Str), ("flush" : Str), ("drop" : Str), ("both" : Str), ("exit" : Str), ("quit" : Str)])
    {t1 : Tok} (g1 : PySem.W.nsIn K mainGlobals "FORK" = some (some (Value.str "fork" t1)))
    {t2 : Tok} (g2 : PySem.W.nsIn K mainGlobals "LINE" = some (some (Value.str "line" t2)))
    {t3 : Tok} (g3 : PySem.W.nsIn K mainGlobals "MOST_ACTIONS" = some (some (Value.int 300 t3)))
    {t4 : Tok} (g4 : PySem.W.nsIn K mainGlobals "MOST_BYTES" = some (some (Value.int 2000 t4)))
    {t5 : Tok} (g5 : PySem.W.nsIn K mainGlobals "MOST_BYTES_HERE" = some (some (Value.int 2000 t5)))
    {t6 : Tok} (g6 : PySem.W.nsIn K mainGlobals "MOST_DEPTH" = some (some (Value.int 6 t6)))
    {t7 : Tok} (g7 : PySem.W.nsIn K mainGlobals "MOST_POINTS_HERE" = some (some (Value.int 2000 t7)))
    {t8 : Tok} (g8 : PySem.W.nsIn K mainGlobals "MOST_TURNS" = some (some (Value.int 300 t8)))
    {t9 : Tok} (g9 : PySem.W.nsIn K mainGlobals "REPEAT" = some (some (Value.str "repeat" t9)))
    {t10 : Tok} (g10 : PySem.W.nsIn K mainGlobals "WRITE" = some (some (Value.str "write" t10)))
    : LawT false l w K 41 63 "_law_script" mg fa ["_law_told"] := by
  have e := hfa.symm.trans (PySem.W.mg_of X G a23)
  cases e
  let z : Ad := { LineProgram := A_LineProgram, Program := A_Program, AbsentError := A_AbsentError, DifferentModes := A_DifferentModes, EchoError := A_EchoError, InvalidCapacity := A_InvalidCapacity, InvalidMode := A_InvalidMode, InvalidNumber := A_InvalidNumber, InvalidProgram := A_InvalidProgram, NoPlace := A_NoPlace, NoPoint := A_NoPoint, SizeError := A_SizeError, TooLarge := A_TooLarge, TooLong := A_TooLong, TooManyProcesses := A_TooManyProcesses, t0 := tp0 }
  have xva_InvalidProgram : XVal K A_InvalidProgram := ⟨va0, vg0, xb3, vd0, vc0, vn, vt, vm0⟩
  have xva_NoPlace : XVal K A_NoPlace := ⟨va1, vg1, xb4, vd1, vc1, vn, vt, vm1⟩
  have xva_TooLarge : XVal K A_TooLarge := ⟨va2, vg2, xb5, vd2, vc2, vn, vt, vm2⟩
  have xva_TooLong : XVal K A_TooLong := ⟨va3, vg3, xb6, vd3, vc3, vn, vt, vm3⟩
  have xva_InvalidNumber : XVal K A_InvalidNumber := ⟨va4, vg4, xb2, vd4, vc4, vn, vt, vm4⟩
  have xva_InvalidMode : XVal K A_InvalidMode := ⟨va5, vg5, xb1, vd5, vc5, vn, vt, vm5⟩
  have xva_DifferentModes : XVal K A_DifferentModes := ⟨va6, vg6, xb0, vd6, vc6, vn, vt, vm6⟩
  have xq_0_0 : XVal K A_InvalidProgram ∧ ∃ v u, ClsD (.ref A_DifferentModes) v u ∧ PySem.W.kitOne K (.ref A_InvalidProgram) u = some false := ⟨xva_InvalidProgram, _, _, .own _, vk0_0⟩
  have xq_0_1 : XVal K A_InvalidProgram ∧ ∃ v u, ClsD (.ref A_InvalidCapacity) v u ∧ PySem.W.kitOne K (.ref A_InvalidProgram) u = some false := ⟨xva_InvalidProgram, _, _, .own _, vk0_1⟩
  have xq_0_2 : XVal K A_InvalidProgram ∧ ∃ v u, ClsD (.ref A_InvalidMode) v u ∧ PySem.W.kitOne K (.ref A_InvalidProgram) u = some false := ⟨xva_InvalidProgram, _, _, .own _, vk0_2⟩
  have xq_0_3 : XVal K A_InvalidProgram ∧ ∃ v u, ClsD (.ref A_InvalidNumber) v u ∧ PySem.W.kitOne K (.ref A_InvalidProgram) u = some false := ⟨xva_InvalidProgram, _, _, .own _, vk0_3⟩
  have xq_0_4 : XVal K A_InvalidProgram ∧ ∃ v u, ClsD (.ref A_InvalidProgram) v u ∧ PySem.W.kitOne K (.ref A_InvalidProgram) u = some true := ⟨xva_InvalidProgram, _, _, .own _, vk0_4⟩
  have xq_0_5 : XVal K A_InvalidProgram ∧ ∃ v u, ClsD (.ty "LookupError") v u ∧ PySem.W.kitOne K (.ref A_InvalidProgram) u = some false := ⟨xva_InvalidProgram, _, _, .ty _, vk0_5⟩
  have xq_0_6 : XVal K A_InvalidProgram ∧ ∃ v u, ClsD (.ref A_NoPlace) v u ∧ PySem.W.kitOne K (.ref A_InvalidProgram) u = some false := ⟨xva_InvalidProgram, _, _, .own _, vk0_6⟩
  have xq_0_7 : XVal K A_InvalidProgram ∧ ∃ v u, ClsD (.ref A_NoPoint) v u ∧ PySem.W.kitOne K (.ref A_InvalidProgram) u = some false := ⟨xva_InvalidProgram, _, _, .own _, vk0_7⟩
  have xq_0_8 : XVal K A_InvalidProgram ∧ ∃ v u, ClsD (.ty "OverflowError") v u ∧ PySem.W.kitOne K (.ref A_InvalidProgram) u = some false := ⟨xva_InvalidProgram, _, _, .ty _, vk0_8⟩
  have xq_0_9 : XVal K A_InvalidProgram ∧ ∃ v u, ClsD (.ref A_TooLarge) v u ∧ PySem.W.kitOne K (.ref A_InvalidProgram) u = some false := ⟨xva_InvalidProgram, _, _, .own _, vk0_9⟩
  have xq_0_10 : XVal K A_InvalidProgram ∧ ∃ v u, ClsD (.ref A_TooLong) v u ∧ PySem.W.kitOne K (.ref A_InvalidProgram) u = some false := ⟨xva_InvalidProgram, _, _, .own _, vk0_10⟩
  have xq_0_11 : XVal K A_InvalidProgram ∧ ∃ v u, ClsD (.ref A_TooManyProcesses) v u ∧ PySem.W.kitOne K (.ref A_InvalidProgram) u = some false := ⟨xva_InvalidProgram, _, _, .own _, vk0_11⟩
  have xq_0_12 : XVal K A_InvalidProgram ∧ ∃ v u, ClsD (.ty "ValueError") v u ∧ PySem.W.kitOne K (.ref A_InvalidProgram) u = some true := ⟨xva_InvalidProgram, _, _, .ty _, vk0_12⟩
  have xq_1_0 : XVal K A_NoPlace ∧ ∃ v u, ClsD (.ref A_DifferentModes) v u ∧ PySem.W.kitOne K (.ref A_NoPlace) u = some false := ⟨xva_NoPlace, _, _, .own _, vk1_0⟩
  have xq_1_1 : XVal K A_NoPlace ∧ ∃ v u, ClsD (.ref A_InvalidCapacity) v u ∧ PySem.W.kitOne K (.ref A_NoPlace) u = some false := ⟨xva_NoPlace, _, _, .own _, vk1_1⟩
  have xq_1_2 : XVal K A_NoPlace ∧ ∃ v u, ClsD (.ref A_InvalidMode) v u ∧ PySem.W.kitOne K (.ref A_NoPlace) u = some false := ⟨xva_NoPlace, _, _, .own _, vk1_2⟩
  have xq_1_3 : XVal K A_NoPlace ∧ ∃ v u, ClsD (.ref A_InvalidNumber) v u ∧ PySem.W.kitOne K (.ref A_NoPlace) u = some false := ⟨xva_NoPlace, _, _, .own _, vk1_3⟩
  have xq_1_4 : XVal K A_NoPlace ∧ ∃ v u, ClsD (.ref A_InvalidProgram) v u ∧ PySem.W.kitOne K (.ref A_NoPlace) u = some false := ⟨xva_NoPlace, _, _, .own _, vk1_4⟩
  have xq_1_5 : XVal K A_NoPlace ∧ ∃ v u, ClsD (.ty "LookupError") v u ∧ PySem.W.kitOne K (.ref A_NoPlace) u = some true := ⟨xva_NoPlace, _, _, .ty _, vk1_5⟩
  have xq_1_6 : XVal K A_NoPlace ∧ ∃ v u, ClsD (.ref A_NoPlace) v u ∧ PySem.W.kitOne K (.ref A_NoPlace) u = some true := ⟨xva_NoPlace, _, _, .own _, vk1_6⟩
  have xq_1_7 : XVal K A_NoPlace ∧ ∃ v u, ClsD (.ref A_NoPoint) v u ∧ PySem.W.kitOne K (.ref A_NoPlace) u = some false := ⟨xva_NoPlace, _, _, .own _, vk1_7⟩
  have xq_1_8 : XVal K A_NoPlace ∧ ∃ v u, ClsD (.ty "OverflowError") v u ∧ PySem.W.kitOne K (.ref A_NoPlace) u = some false := ⟨xva_NoPlace, _, _, .ty _, vk1_8⟩
  have xq_1_9 : XVal K A_NoPlace ∧ ∃ v u, ClsD (.ref A_TooLarge) v u ∧ PySem.W.kitOne K (.ref A_NoPlace) u = some false := ⟨xva_NoPlace, _, _, .own _, vk1_9⟩
  have xq_1_10 : XVal K A_NoPlace ∧ ∃ v u, ClsD (.ref A_TooLong) v u ∧ PySem.W.kitOne K (.ref A_NoPlace) u = some false := ⟨xva_NoPlace, _, _, .own _, vk1_10⟩
  have xq_1_11 : XVal K A_NoPlace ∧ ∃ v u, ClsD (.ref A_TooManyProcesses) v u ∧ PySem.W.kitOne K (.ref A_NoPlace) u = some false := ⟨xva_NoPlace, _, _, .own _, vk1_11⟩
  have xq_1_12 : XVal K A_NoPlace ∧ ∃ v u, ClsD (.ty "ValueError") v u ∧ PySem.W.kitOne K (.ref A_NoPlace) u = some false := ⟨xva_NoPlace, _, _, .ty _, vk1_12⟩
  have xq_2_0 : XVal K A_TooLarge ∧ ∃ v u, ClsD (.ref A_DifferentModes) v u ∧ PySem.W.kitOne K (.ref A_TooLarge) u = some false := ⟨xva_TooLarge, _, _, .own _, vk2_0⟩
  have xq_2_1 : XVal K A_TooLarge ∧ ∃ v u, ClsD (.ref A_InvalidCapacity) v u ∧ PySem.W.kitOne K (.ref A_TooLarge) u = some false := ⟨xva_TooLarge, _, _, .own _, vk2_1⟩
  have xq_2_2 : XVal K A_TooLarge ∧ ∃ v u, ClsD (.ref A_InvalidMode) v u ∧ PySem.W.kitOne K (.ref A_TooLarge) u = some false := ⟨xva_TooLarge, _, _, .own _, vk2_2⟩
  have xq_2_3 : XVal K A_TooLarge ∧ ∃ v u, ClsD (.ref A_InvalidNumber) v u ∧ PySem.W.kitOne K (.ref A_TooLarge) u = some false := ⟨xva_TooLarge, _, _, .own _, vk2_3⟩
  have xq_2_4 : XVal K A_TooLarge ∧ ∃ v u, ClsD (.ref A_InvalidProgram) v u ∧ PySem.W.kitOne K (.ref A_TooLarge) u = some false := ⟨xva_TooLarge, _, _, .own _, vk2_4⟩
  have xq_2_5 : XVal K A_TooLarge ∧ ∃ v u, ClsD (.ty "LookupError") v u ∧ PySem.W.kitOne K (.ref A_TooLarge) u = some false := ⟨xva_TooLarge, _, _, .ty _, vk2_5⟩
  have xq_2_6 : XVal K A_TooLarge ∧ ∃ v u, ClsD (.ref A_NoPlace) v u ∧ PySem.W.kitOne K (.ref A_TooLarge) u = some false := ⟨xva_TooLarge, _, _, .own _, vk2_6⟩
  have xq_2_7 : XVal K A_TooLarge ∧ ∃ v u, ClsD (.ref A_NoPoint) v u ∧ PySem.W.kitOne K (.ref A_TooLarge) u = some false := ⟨xva_TooLarge, _, _, .own _, vk2_7⟩
  have xq_2_8 : XVal K A_TooLarge ∧ ∃ v u, ClsD (.ty "OverflowError") v u ∧ PySem.W.kitOne K (.ref A_TooLarge) u = some true := ⟨xva_TooLarge, _, _, .ty _, vk2_8⟩
  have xq_2_9 : XVal K A_TooLarge ∧ ∃ v u, ClsD (.ref A_TooLarge) v u ∧ PySem.W.kitOne K (.ref A_TooLarge) u = some true := ⟨xva_TooLarge, _, _, .own _, vk2_9⟩
  have xq_2_10 : XVal K A_TooLarge ∧ ∃ v u, ClsD (.ref A_TooLong) v u ∧ PySem.W.kitOne K (.ref A_TooLarge) u = some false := ⟨xva_TooLarge, _, _, .own _, vk2_10⟩
  have xq_2_11 : XVal K A_TooLarge ∧ ∃ v u, ClsD (.ref A_TooManyProcesses) v u ∧ PySem.W.kitOne K (.ref A_TooLarge) u = some false := ⟨xva_TooLarge, _, _, .own _, vk2_11⟩
  have xq_2_12 : XVal K A_TooLarge ∧ ∃ v u, ClsD (.ty "ValueError") v u ∧ PySem.W.kitOne K (.ref A_TooLarge) u = some false := ⟨xva_TooLarge, _, _, .ty _, vk2_12⟩
  have xq_3_0 : XVal K A_TooLong ∧ ∃ v u, ClsD (.ref A_DifferentModes) v u ∧ PySem.W.kitOne K (.ref A_TooLong) u = some false := ⟨xva_TooLong, _, _, .own _, vk3_0⟩
  have xq_3_1 : XVal K A_TooLong ∧ ∃ v u, ClsD (.ref A_InvalidCapacity) v u ∧ PySem.W.kitOne K (.ref A_TooLong) u = some false := ⟨xva_TooLong, _, _, .own _, vk3_1⟩
  have xq_3_2 : XVal K A_TooLong ∧ ∃ v u, ClsD (.ref A_InvalidMode) v u ∧ PySem.W.kitOne K (.ref A_TooLong) u = some false := ⟨xva_TooLong, _, _, .own _, vk3_2⟩
  have xq_3_3 : XVal K A_TooLong ∧ ∃ v u, ClsD (.ref A_InvalidNumber) v u ∧ PySem.W.kitOne K (.ref A_TooLong) u = some false := ⟨xva_TooLong, _, _, .own _, vk3_3⟩
  have xq_3_4 : XVal K A_TooLong ∧ ∃ v u, ClsD (.ref A_InvalidProgram) v u ∧ PySem.W.kitOne K (.ref A_TooLong) u = some false := ⟨xva_TooLong, _, _, .own _, vk3_4⟩
  have xq_3_5 : XVal K A_TooLong ∧ ∃ v u, ClsD (.ty "LookupError") v u ∧ PySem.W.kitOne K (.ref A_TooLong) u = some false := ⟨xva_TooLong, _, _, .ty _, vk3_5⟩
  have xq_3_6 : XVal K A_TooLong ∧ ∃ v u, ClsD (.ref A_NoPlace) v u ∧ PySem.W.kitOne K (.ref A_TooLong) u = some false := ⟨xva_TooLong, _, _, .own _, vk3_6⟩
  have xq_3_7 : XVal K A_TooLong ∧ ∃ v u, ClsD (.ref A_NoPoint) v u ∧ PySem.W.kitOne K (.ref A_TooLong) u = some false := ⟨xva_TooLong, _, _, .own _, vk3_7⟩
  have xq_3_8 : XVal K A_TooLong ∧ ∃ v u, ClsD (.ty "OverflowError") v u ∧ PySem.W.kitOne K (.ref A_TooLong) u = some true := ⟨xva_TooLong, _, _, .ty _, vk3_8⟩
  have xq_3_9 : XVal K A_TooLong ∧ ∃ v u, ClsD (.ref A_TooLarge) v u ∧ PySem.W.kitOne K (.ref A_TooLong) u = some false := ⟨xva_TooLong, _, _, .own _, vk3_9⟩
  have xq_3_10 : XVal K A_TooLong ∧ ∃ v u, ClsD (.ref A_TooLong) v u ∧ PySem.W.kitOne K (.ref A_TooLong) u = some true := ⟨xva_TooLong, _, _, .own _, vk3_10⟩
  have xq_3_11 : XVal K A_TooLong ∧ ∃ v u, ClsD (.ref A_TooManyProcesses) v u ∧ PySem.W.kitOne K (.ref A_TooLong) u = some false := ⟨xva_TooLong, _, _, .own _, vk3_11⟩
  have xq_3_12 : XVal K A_TooLong ∧ ∃ v u, ClsD (.ty "ValueError") v u ∧ PySem.W.kitOne K (.ref A_TooLong) u = some false := ⟨xva_TooLong, _, _, .ty _, vk3_12⟩
  have xq_4_0 : XVal K A_InvalidNumber ∧ ∃ v u, ClsD (.ref A_DifferentModes) v u ∧ PySem.W.kitOne K (.ref A_InvalidNumber) u = some false := ⟨xva_InvalidNumber, _, _, .own _, vk4_0⟩
  have xq_4_1 : XVal K A_InvalidNumber ∧ ∃ v u, ClsD (.ref A_InvalidCapacity) v u ∧ PySem.W.kitOne K (.ref A_InvalidNumber) u = some false := ⟨xva_InvalidNumber, _, _, .own _, vk4_1⟩
  have xq_4_2 : XVal K A_InvalidNumber ∧ ∃ v u, ClsD (.ref A_InvalidMode) v u ∧ PySem.W.kitOne K (.ref A_InvalidNumber) u = some false := ⟨xva_InvalidNumber, _, _, .own _, vk4_2⟩
  have xq_4_3 : XVal K A_InvalidNumber ∧ ∃ v u, ClsD (.ref A_InvalidNumber) v u ∧ PySem.W.kitOne K (.ref A_InvalidNumber) u = some true := ⟨xva_InvalidNumber, _, _, .own _, vk4_3⟩
  have xq_4_4 : XVal K A_InvalidNumber ∧ ∃ v u, ClsD (.ref A_InvalidProgram) v u ∧ PySem.W.kitOne K (.ref A_InvalidNumber) u = some false := ⟨xva_InvalidNumber, _, _, .own _, vk4_4⟩
  have xq_4_5 : XVal K A_InvalidNumber ∧ ∃ v u, ClsD (.ty "LookupError") v u ∧ PySem.W.kitOne K (.ref A_InvalidNumber) u = some false := ⟨xva_InvalidNumber, _, _, .ty _, vk4_5⟩
  have xq_4_6 : XVal K A_InvalidNumber ∧ ∃ v u, ClsD (.ref A_NoPlace) v u ∧ PySem.W.kitOne K (.ref A_InvalidNumber) u = some false := ⟨xva_InvalidNumber, _, _, .own _, vk4_6⟩
  have xq_4_7 : XVal K A_InvalidNumber ∧ ∃ v u, ClsD (.ref A_NoPoint) v u ∧ PySem.W.kitOne K (.ref A_InvalidNumber) u = some false := ⟨xva_InvalidNumber, _, _, .own _, vk4_7⟩
  have xq_4_8 : XVal K A_InvalidNumber ∧ ∃ v u, ClsD (.ty "OverflowError") v u ∧ PySem.W.kitOne K (.ref A_InvalidNumber) u = some false := ⟨xva_InvalidNumber, _, _, .ty _, vk4_8⟩
  have xq_4_9 : XVal K A_InvalidNumber ∧ ∃ v u, ClsD (.ref A_TooLarge) v u ∧ PySem.W.kitOne K (.ref A_InvalidNumber) u = some false := ⟨xva_InvalidNumber, _, _, .own _, vk4_9⟩
  have xq_4_10 : XVal K A_InvalidNumber ∧ ∃ v u, ClsD (.ref A_TooLong) v u ∧ PySem.W.kitOne K (.ref A_InvalidNumber) u = some false := ⟨xva_InvalidNumber, _, _, .own _, vk4_10⟩
  have xq_4_11 : XVal K A_InvalidNumber ∧ ∃ v u, ClsD (.ref A_TooManyProcesses) v u ∧ PySem.W.kitOne K (.ref A_InvalidNumber) u = some false := ⟨xva_InvalidNumber, _, _, .own _, vk4_11⟩
  have xq_4_12 : XVal K A_InvalidNumber ∧ ∃ v u, ClsD (.ty "ValueError") v u ∧ PySem.W.kitOne K (.ref A_InvalidNumber) u = some true := ⟨xva_InvalidNumber, _, _, .ty _, vk4_12⟩
  have xq_5_0 : XVal K A_InvalidMode ∧ ∃ v u, ClsD (.ref A_DifferentModes) v u ∧ PySem.W.kitOne K (.ref A_InvalidMode) u = some false := ⟨xva_InvalidMode, _, _, .own _, vk5_0⟩
  have xq_5_1 : XVal K A_InvalidMode ∧ ∃ v u, ClsD (.ref A_InvalidCapacity) v u ∧ PySem.W.kitOne K (.ref A_InvalidMode) u = some false := ⟨xva_InvalidMode, _, _, .own _, vk5_1⟩
  have xq_5_2 : XVal K A_InvalidMode ∧ ∃ v u, ClsD (.ref A_InvalidMode) v u ∧ PySem.W.kitOne K (.ref A_InvalidMode) u = some true := ⟨xva_InvalidMode, _, _, .own _, vk5_2⟩
  have xq_5_3 : XVal K A_InvalidMode ∧ ∃ v u, ClsD (.ref A_InvalidNumber) v u ∧ PySem.W.kitOne K (.ref A_InvalidMode) u = some false := ⟨xva_InvalidMode, _, _, .own _, vk5_3⟩
  have xq_5_4 : XVal K A_InvalidMode ∧ ∃ v u, ClsD (.ref A_InvalidProgram) v u ∧ PySem.W.kitOne K (.ref A_InvalidMode) u = some false := ⟨xva_InvalidMode, _, _, .own _, vk5_4⟩
  have xq_5_5 : XVal K A_InvalidMode ∧ ∃ v u, ClsD (.ty "LookupError") v u ∧ PySem.W.kitOne K (.ref A_InvalidMode) u = some false := ⟨xva_InvalidMode, _, _, .ty _, vk5_5⟩
  have xq_5_6 : XVal K A_InvalidMode ∧ ∃ v u, ClsD (.ref A_NoPlace) v u ∧ PySem.W.kitOne K (.ref A_InvalidMode) u = some false := ⟨xva_InvalidMode, _, _, .own _, vk5_6⟩
  have xq_5_7 : XVal K A_InvalidMode ∧ ∃ v u, ClsD (.ref A_NoPoint) v u ∧ PySem.W.kitOne K (.ref A_InvalidMode) u = some false := ⟨xva_InvalidMode, _, _, .own _, vk5_7⟩
  have xq_5_8 : XVal K A_InvalidMode ∧ ∃ v u, ClsD (.ty "OverflowError") v u ∧ PySem.W.kitOne K (.ref A_InvalidMode) u = some false := ⟨xva_InvalidMode, _, _, .ty _, vk5_8⟩
  have xq_5_9 : XVal K A_InvalidMode ∧ ∃ v u, ClsD (.ref A_TooLarge) v u ∧ PySem.W.kitOne K (.ref A_InvalidMode) u = some false := ⟨xva_InvalidMode, _, _, .own _, vk5_9⟩
  have xq_5_10 : XVal K A_InvalidMode ∧ ∃ v u, ClsD (.ref A_TooLong) v u ∧ PySem.W.kitOne K (.ref A_InvalidMode) u = some false := ⟨xva_InvalidMode, _, _, .own _, vk5_10⟩
  have xq_5_11 : XVal K A_InvalidMode ∧ ∃ v u, ClsD (.ref A_TooManyProcesses) v u ∧ PySem.W.kitOne K (.ref A_InvalidMode) u = some false := ⟨xva_InvalidMode, _, _, .own _, vk5_11⟩
  have xq_5_12 : XVal K A_InvalidMode ∧ ∃ v u, ClsD (.ty "ValueError") v u ∧ PySem.W.kitOne K (.ref A_InvalidMode) u = some true := ⟨xva_InvalidMode, _, _, .ty _, vk5_12⟩
  have xq_6_0 : XVal K A_DifferentModes ∧ ∃ v u, ClsD (.ref A_DifferentModes) v u ∧ PySem.W.kitOne K (.ref A_DifferentModes) u = some true := ⟨xva_DifferentModes, _, _, .own _, vk6_0⟩
  have xq_6_1 : XVal K A_DifferentModes ∧ ∃ v u, ClsD (.ref A_InvalidCapacity) v u ∧ PySem.W.kitOne K (.ref A_DifferentModes) u = some false := ⟨xva_DifferentModes, _, _, .own _, vk6_1⟩
  have xq_6_2 : XVal K A_DifferentModes ∧ ∃ v u, ClsD (.ref A_InvalidMode) v u ∧ PySem.W.kitOne K (.ref A_DifferentModes) u = some false := ⟨xva_DifferentModes, _, _, .own _, vk6_2⟩
  have xq_6_3 : XVal K A_DifferentModes ∧ ∃ v u, ClsD (.ref A_InvalidNumber) v u ∧ PySem.W.kitOne K (.ref A_DifferentModes) u = some false := ⟨xva_DifferentModes, _, _, .own _, vk6_3⟩
  have xq_6_4 : XVal K A_DifferentModes ∧ ∃ v u, ClsD (.ref A_InvalidProgram) v u ∧ PySem.W.kitOne K (.ref A_DifferentModes) u = some false := ⟨xva_DifferentModes, _, _, .own _, vk6_4⟩
  have xq_6_5 : XVal K A_DifferentModes ∧ ∃ v u, ClsD (.ty "LookupError") v u ∧ PySem.W.kitOne K (.ref A_DifferentModes) u = some false := ⟨xva_DifferentModes, _, _, .ty _, vk6_5⟩
  have xq_6_6 : XVal K A_DifferentModes ∧ ∃ v u, ClsD (.ref A_NoPlace) v u ∧ PySem.W.kitOne K (.ref A_DifferentModes) u = some false := ⟨xva_DifferentModes, _, _, .own _, vk6_6⟩
  have xq_6_7 : XVal K A_DifferentModes ∧ ∃ v u, ClsD (.ref A_NoPoint) v u ∧ PySem.W.kitOne K (.ref A_DifferentModes) u = some false := ⟨xva_DifferentModes, _, _, .own _, vk6_7⟩
  have xq_6_8 : XVal K A_DifferentModes ∧ ∃ v u, ClsD (.ty "OverflowError") v u ∧ PySem.W.kitOne K (.ref A_DifferentModes) u = some false := ⟨xva_DifferentModes, _, _, .ty _, vk6_8⟩
  have xq_6_9 : XVal K A_DifferentModes ∧ ∃ v u, ClsD (.ref A_TooLarge) v u ∧ PySem.W.kitOne K (.ref A_DifferentModes) u = some false := ⟨xva_DifferentModes, _, _, .own _, vk6_9⟩
  have xq_6_10 : XVal K A_DifferentModes ∧ ∃ v u, ClsD (.ref A_TooLong) v u ∧ PySem.W.kitOne K (.ref A_DifferentModes) u = some false := ⟨xva_DifferentModes, _, _, .own _, vk6_10⟩
  have xq_6_11 : XVal K A_DifferentModes ∧ ∃ v u, ClsD (.ref A_TooManyProcesses) v u ∧ PySem.W.kitOne K (.ref A_DifferentModes) u = some false := ⟨xva_DifferentModes, _, _, .own _, vk6_11⟩
  have xq_6_12 : XVal K A_DifferentModes ∧ ∃ v u, ClsD (.ty "ValueError") v u ∧ PySem.W.kitOne K (.ref A_DifferentModes) u = some true := ⟨xva_DifferentModes, _, _, .ty _, vk6_12⟩
  have T : Txt K mg z := ⟨⟨pg0, hd0, po0, sa0⟩, ⟨pg1, hd1, po1, sa1⟩, nf0, nf1, cst_ref (PySem.W.mg_of X G aC0), cst_ref (PySem.W.mg_of X G aC1), cst_ref (PySem.W.mg_of X G xa1), cst_ref (PySem.W.mg_of X G xa3), cst_ref (PySem.W.mg_of X G xa4), cst_ref (PySem.W.mg_of X G xa5), cst_ref (PySem.W.mg_of X G xa6), cst_ref (PySem.W.mg_of X G xa7), cst_ref (PySem.W.mg_of X G xa8), cst_ref (PySem.W.mg_of X G xa10), cst_ref (PySem.W.mg_of X G xa11), cst_ref (PySem.W.mg_of X G xa12), PySem.W.mg_of X G xa2, PySem.W.mg_of X G xa9, PySem.W.mg_of X G xa0, (fun C hC => by (try unfold errs at hC); (try unfold xtab at hC); simp only [List.mem_cons, List.not_mem_nil, or_false] at hC; rcases hC with rfl | rfl | rfl | rfl | rfl | rfl | rfl <;> first | exact exm3_of (PySem.W.exm_ref wb0 wd0 wy0 ve0_0) (PySem.W.exm_ref wb1 wd1 wy1 ve0_1) (PySem.W.exm_ref wb2 wd2 wy2 ve0_2) rfl | exact exm3_of (PySem.W.exm_ref wb0 wd0 wy0 ve1_0) (PySem.W.exm_ref wb1 wd1 wy1 ve1_1) (PySem.W.exm_ref wb2 wd2 wy2 ve1_2) rfl | exact exm3_of (PySem.W.exm_ref wb0 wd0 wy0 ve2_0) (PySem.W.exm_ref wb1 wd1 wy1 ve2_1) (PySem.W.exm_ref wb2 wd2 wy2 ve2_2) rfl | exact exm3_of (PySem.W.exm_ref wb0 wd0 wy0 ve3_0) (PySem.W.exm_ref wb1 wd1 wy1 ve3_1) (PySem.W.exm_ref wb2 wd2 wy2 ve3_2) rfl | exact exm3_of (PySem.W.exm_ref wb0 wd0 wy0 ve4_0) (PySem.W.exm_ref wb1 wd1 wy1 ve4_1) (PySem.W.exm_ref wb2 wd2 wy2 ve4_2) rfl | exact exm3_of (PySem.W.exm_ref wb0 wd0 wy0 ve5_0) (PySem.W.exm_ref wb1 wd1 wy1 ve5_1) (PySem.W.exm_ref wb2 wd2 wy2 ve5_2) rfl | exact exm3_of (PySem.W.exm_ref wb0 wd0 wy0 ve6_0) (PySem.W.exm_ref wb1 wd1 wy1 ve6_1) (PySem.W.exm_ref wb2 wd2 wy2 ve6_2) rfl), (fun C hC => by (try unfold errs at hC); (try unfold xtab at hC); simp only [List.mem_cons, List.not_mem_nil, or_false] at hC; rcases hC with rfl | rfl | rfl | rfl | rfl | rfl | rfl | rfl | rfl | rfl | rfl | rfl | rfl | rfl | rfl | rfl | rfl | rfl | rfl | rfl | rfl | rfl | rfl | rfl | rfl | rfl | rfl | rfl | rfl | rfl | rfl | rfl | rfl | rfl | rfl | rfl | rfl | rfl | rfl | rfl | rfl | rfl | rfl | rfl | rfl | rfl | rfl | rfl | rfl | rfl | rfl | rfl | rfl | rfl | rfl | rfl | rfl | rfl | rfl | rfl | rfl | rfl | rfl | rfl | rfl | rfl | rfl | rfl | rfl | rfl | rfl | rfl | rfl | rfl | rfl | rfl | rfl | rfl | rfl | rfl | rfl | rfl | rfl | rfl | rfl | rfl | rfl | rfl | rfl | rfl | rfl <;> first | exact xq_0_0 | exact xq_0_1 | exact xq_0_2 | exact xq_0_3 | exact xq_0_4 | exact xq_0_5 | exact xq_0_6 | exact xq_0_7 | exact xq_0_8 | exact xq_0_9 | exact xq_0_10 | exact xq_0_11 | exact xq_0_12 | exact xq_1_0 | exact xq_1_1 | exact xq_1_2 | exact xq_1_3 | exact xq_1_4 | exact xq_1_5 | exact xq_1_6 | exact xq_1_7 | exact xq_1_8 | exact xq_1_9 | exact xq_1_10 | exact xq_1_11 | exact xq_1_12 | exact xq_2_0 | exact xq_2_1 | exact xq_2_2 | exact xq_2_3 | exact xq_2_4 | exact xq_2_5 | exact xq_2_6 | exact xq_2_7 | exact xq_2_8 | exact xq_2_9 | exact xq_2_10 | exact xq_2_11 | exact xq_2_12 | exact xq_3_0 | exact xq_3_1 | exact xq_3_2 | exact xq_3_3 | exact xq_3_4 | exact xq_3_5 | exact xq_3_6 | exact xq_3_7 | exact xq_3_8 | exact xq_3_9 | exact xq_3_10 | exact xq_3_11 | exact xq_3_12 | exact xq_4_0 | exact xq_4_1 | exact xq_4_2 | exact xq_4_3 | exact xq_4_4 | exact xq_4_5 | exact xq_4_6 | exact xq_4_7 | exact xq_4_8 | exact xq_4_9 | exact xq_4_10 | exact xq_4_11 | exact xq_4_12 | exact xq_5_0 | exact xq_5_1 | exact xq_5_2 | exact xq_5_3 | exact xq_5_4 | exact xq_5_5 | exact xq_5_6 | exact xq_5_7 | exact xq_5_8 | exact xq_5_9 | exact xq_5_10 | exact xq_5_11 | exact xq_5_12 | exact xq_6_0 | exact xq_6_1 | exact xq_6_2 | exact xq_6_3 | exact xq_6_4 | exact xq_6_5 | exact xq_6_6 | exact xq_6_7 | exact xq_6_8 | exact xq_6_9 | exact xq_6_10 | exact xq_6_11 | exact xq_6_12), (fun C hC => by (try unfold errs at hC); (try unfold xtab at hC); simp only [List.mem_cons, List.not_mem_nil, or_false] at hC; rcases hC with rfl <;> first | exact ⟨xva_TooLong, vf3_0⟩), (fun C hC => by (try unfold errs at hC); (try unfold xtab at hC); simp only [List.mem_cons, List.not_mem_nil, or_false] at hC; rcases hC with rfl | rfl <;> first | exact ⟨xva_InvalidProgram, vf0_0⟩ | exact ⟨xva_NoPlace, vf1_0⟩), (fun C hC => by (try unfold errs at hC); (try unfold xtab at hC); simp only [List.mem_cons, List.not_mem_nil, or_false] at hC; rcases hC with rfl <;> first | exact ⟨xva_TooLarge, vf2_0⟩), (fun C hC => by (try unfold errs at hC); (try unfold xtab at hC); simp only [List.mem_cons, List.not_mem_nil, or_false] at hC; rcases hC with rfl | rfl <;> first | exact ⟨xva_InvalidNumber, vf4_0⟩ | exact ⟨xva_InvalidMode, vf5_0⟩), PySem.W.mg_none_of X G z0, PySem.W.mg_none_of X G z1, PySem.W.mg_none_of X G z2, PySem.W.mg_none_of X G z3, PySem.W.mg_none_of X G z4, PySem.W.mg_none_of X G z5, PySem.W.mg_none_of X G z6, PySem.W.mg_none_of X G z7, PySem.W.mg_none_of X G z8, PySem.W.mg_none_of X G z9, PySem.W.mg_none_of X G z10, PySem.W.mg_none_of X G z11, PySem.W.mg_none_of X G z12, PySem.W.mg_none_of X G z13, PySem.W.mg_none_of X G z14, cst_strs (PySem.W.mg_of X G g0) gt0 gz0 gs0, cst_str (PySem.W.mg_of X G g1), cst_str (PySem.W.mg_of X G g2), cst_int (PySem.W.mg_of X G g3), cst_int (PySem.W.mg_of X G g4), cst_int (PySem.W.mg_of X G g5), cst_int (PySem.W.mg_of X G g6), cst_int (PySem.W.mg_of X G g7), cst_int (PySem.W.mg_of X G g8), cst_str (PySem.W.mg_of X G g9), cst_str (PySem.W.mg_of X G g10)⟩
  have Fu0 := fun_mk (st := s_is_integer) l0 c0 k0
  have Fu1 := fun_mk (st := s_is_between) l1 c1 k1
  have Fu2 := fun_mk (st := s_is_head) l2 c2 k2
  have Fu3 := fun_mk (st := s_inner_of) l3 c3 k3
  have Fu4 := fun_mk (st := s_bytes_of) l4 c4 k4
  have Fu5 := fun_mk (st := s_wrong_in) l5 c5 k5
  have Fu6 := fun_mk (st := s_first_wrong) l6 c6 k6
  have Fu7 := fun_mk (st := s_size_in) l7 c7 k7
  have Fu8 := fun_mk (st := s_bytes_in) l8 c8 k8
  have Fu9 := fun_mk (st := s_reach_in) l9 c9 k9
  have Fu10 := fun_mk (st := s_Program___init__) l10 c10 k10
  have Fu11 := fun_mk (st := s_Program_of) l11 c11 k11
  have Fu12 := fun_mk (st := s_Program_size) l12 c12 k12
  have Fu13 := fun_mk (st := s_Program_reach) l13 c13 k13
  have Fu14 := fun_mk (st := s__law_pen) l14 c14 k14
  have Fu15 := fun_mk (st := s__law_draw) l15 c15 k15
  have Fu16 := fun_mk (st := s__law_heard) l16 c16 k16
  have Fu17 := fun_mk (st := s__law_told) l17 c17 k17
  have Fu18 := fun_mk (st := s__law_actions_right) l18 c18 k18
  have Fu19 := fun_mk (st := s__law_depth_right) l19 c19 k19
  have Fu20 := fun_mk (st := s__law_points_right) l20 c20 k20
  have Fu21 := fun_mk (st := s__law_bytes_right) l21 c21 k21
  have Fu22 := fun_mk (st := s__law_order_right) l22 c22 k22
  have Fu23 := fun_mk (st := s_law) l23 c23 k23
  have Fu24 := fun_mk (st := s_InvalidProgram___init__) l24 c24 k24
  have Fu25 := fun_mk (st := s_TooLarge___init__) l25 c25 k25
  have Fu26 := fun_mk (st := s_TooLong___init__) l26 c26 k26
  refine ⟨⟨PySem.W.fnOf "law" "law" (defArgs s_law) (defBody s_law) (defScope s_law) .none kV23 dc23 pm23 an23 cd23 ct23, S_law z, [("_law_told", cc0, tp0, (("_law_told" : Str) ++ ".<locals>." ++ "<lambda>"))], fun s v => .of_eq rfl, ?_, fun js h hl ht => law_at z js h hl (ht ("_law_told", cc0, tp0, (("_law_told" : Str) ++ ".<locals>." ++ "<lambda>")) (by simp)), by simp, fun base _ _ TBs => ?_⟩⟩
  · intro p hp
    simp only [List.mem_cons, List.not_mem_nil, or_false] at hp
    rcases hp with rfl
    · exact ⟨by simp, tabIn_of a17 l17 rfl ty0 rv0, tn0⟩
  have TB__law_told : LamX.TabB base mg cc0 z.t0 := TBs ("_law_told", cc0, tp0, (("_law_told" : Str) ++ ".<locals>." ++ "<lambda>")) (by simp)
  have FC__law_told := FunC.of Fu17 (cc := cc0) rfl
  have X_InvalidProgram : XMk l.prog w K mg base "InvalidProgram" z.InvalidProgram 1 ["place"] := ⟨⟨f24, _, _, xi0, xj0, xinit1 (k := 0) Fu24 sc_InvalidProgram___init__ (by first | exact Or.inl rfl | exact Or.inr (Or.inl rfl)) (by first | exact Or.inl rfl | exact Or.inr (Or.inl rfl)) rfl, Fu24.binds (ps := ["self", "place"]) fun _ _ _ _ _ _ us hl => match us, hl with | [_, _], _ => rfl⟩, ⟨⟨_, _, _, _, _, _, _, _, _, _, _, _, _, _, _, _, _, _, _, PySem.F.excBase_ValueError, xl0, rx0, PySem.F.store_ValueError.passes, by decide⟩, xs0, xb3, xy0, xk0⟩, PySem.W.mg_of X G xa6, by intro f hf; simp only [List.mem_cons, List.not_mem_nil, or_false] at hf; rcases hf with rfl <;> first | exact xn0_0, by decide⟩
  have X_TooLarge : XMk l.prog w K mg base "TooLarge" z.TooLarge 1 ["points"] := ⟨⟨f25, _, _, xi1, xj1, xinit1 (k := 0) Fu25 sc_TooLarge___init__ (by first | exact Or.inl rfl | exact Or.inr (Or.inl rfl)) (by first | exact Or.inl rfl | exact Or.inr (Or.inl rfl)) rfl, Fu25.binds (ps := ["self", "points"]) fun _ _ _ _ _ _ us hl => match us, hl with | [_, _], _ => rfl⟩, ⟨⟨_, _, _, _, _, _, _, _, _, _, _, _, _, _, _, _, _, _, _, PySem.F.excBase_OverflowError, xl1, rx1, PySem.F.store_OverflowError.passes, by decide⟩, xs1, xb5, xy1, xk1⟩, PySem.W.mg_of X G xa10, by intro f hf; simp only [List.mem_cons, List.not_mem_nil, or_false] at hf; rcases hf with rfl <;> first | exact xn1_0, by decide⟩
  have X_TooLong : XMk l.prog w K mg base "TooLong" z.TooLong 1 ["length"] := ⟨⟨f26, _, _, xi2, xj2, xinit1 (k := 0) Fu26 sc_TooLong___init__ (by first | exact Or.inl rfl | exact Or.inr (Or.inl rfl)) (by first | exact Or.inl rfl | exact Or.inr (Or.inl rfl)) rfl, Fu26.binds (ps := ["self", "length"]) fun _ _ _ _ _ _ us hl => match us, hl with | [_, _], _ => rfl⟩, ⟨⟨_, _, _, _, _, _, _, _, _, _, _, _, _, _, _, _, _, _, _, PySem.F.excBase_OverflowError, xl2, rx2, PySem.F.store_OverflowError.passes, by decide⟩, xs2, xb6, xy2, xk2⟩, PySem.W.mg_of X G xa11, by intro f hf; simp only [List.mem_cons, List.not_mem_nil, or_false] at hf; rcases hf with rfl <;> first | exact xn2_0, by decide⟩
  have G0 : FnG false l.prog w K mg base 1 f0 _ ["value"] (PK.S_is_integer z) := fng_of Fu0 sc_is_integer (PK.len_is_integer z) (PK.mo_is_integer z) (fun cdv A outer s H E c => d_is_integer T  cdv A outer s H E c) (PK.p_is_integer z)
  have C_is_integer : Cal false l.prog w K mg base "is_integer" 1 1 [] (fun ds _ => ds) (PK.S_is_integer z) := ⟨⟨f0, _, _, PySem.W.mg_of X G a0, k0, G0, (Bnd.plain fun us hl => match us, hl with | [_], _ => rfl)⟩⟩
  have G3 : FnG false l.prog w K mg base 1 f3 _ ["action"] (PK.S_inner_of z) := fng_of Fu3 sc_inner_of (PK.len_inner_of z) (PK.mo_inner_of z) (fun cdv A outer s H E c => d_inner_of T  cdv A outer s H E c) (PK.p_inner_of z)
  have C_inner_of : Cal false l.prog w K mg base "inner_of" 1 1 [] (fun ds _ => ds) (PK.S_inner_of z) := ⟨⟨f3, _, _, PySem.W.mg_of X G a3, k3, G3, (Bnd.plain fun us hl => match us, hl with | [_], _ => rfl)⟩⟩
  have G4 : FnG false l.prog w K mg base 1 f4 _ ["action"] (PK.S_bytes_of z) := fng_of Fu4 sc_bytes_of (PK.len_bytes_of z) (PK.mo_bytes_of z) (fun cdv A outer s H E c => d_bytes_of T  cdv A outer s H E c) (PK.p_bytes_of z)
  have C_bytes_of : Cal false l.prog w K mg base "bytes_of" 1 1 [] (fun ds _ => ds) (PK.S_bytes_of z) := ⟨⟨f4, _, _, PySem.W.mg_of X G a4, k4, G4, (Bnd.plain fun us hl => match us, hl with | [_], _ => rfl)⟩⟩
  have G14 : FnG false l.prog w K mg base 1 f14 _ ["_law_script"] (F1.S__law_pen z) := fng_of Fu14 sc__law_pen (F1.len__law_pen z) (F1.mo__law_pen z) (fun cdv A outer s H E c => d__law_pen T  cdv A outer s H E c) (F1.p__law_pen z)
  have C__law_pen : Cal false l.prog w K mg base "_law_pen" 1 1 [] (fun ds _ => ds) (F1.S__law_pen z) := ⟨⟨f14, _, _, PySem.W.mg_of X G a14, k14, G14, (Bnd.plain fun us hl => match us, hl with | [_], _ => rfl)⟩⟩
  have G15 : FnG false l.prog w K mg base 1 f15 _ ["_law_pen_here", "_law_bound"] (F1.S__law_draw z) := fng_of Fu15 sc__law_draw (F1.len__law_draw z) (F1.mo__law_draw z) (fun cdv A outer s H E c => d__law_draw T  cdv A outer s H E c) (F1.p__law_draw z)
  have C__law_draw : Cal false l.prog w K mg base "_law_draw" 1 2 [] (fun ds _ => ds) (F1.S__law_draw z) := ⟨⟨f15, _, _, PySem.W.mg_of X G a15, k15, G15, (Bnd.plain fun us hl => match us, hl with | [_, _], _ => rfl)⟩⟩
  have H__law_heard : HCal l.prog w K mg base false "_law_heard" 0 (PX.S__law_heard z) := ⟨⟨f16, _, s__law_heard, N__law_heard, "_law_ask", PX.w__law_heard z, PySem.W.mg_of X G a16, Fu16, sc__law_heard, rfl, by first | exact Or.inl rfl | exact Or.inr (Or.inl rfl), by decide, by decide, fun s v => .of_eq rfl, fun d tl hm cdv A outer s H E c act => d__law_heard T  d tl cdv A outer s H E c act, PX.p__law_heard z⟩, PX.mo__law_heard z⟩
  have G1 : FnG false l.prog w K mg base 2 f1 _ ["value", "least", "most"] (PK.S_is_between z) := fng_of Fu1 sc_is_between (PK.len_is_between z) (PK.mo_is_between z) (fun cdv A outer s H E c => d_is_between T C_is_integer cdv A outer s H E c) (PK.p_is_between z)
  have C_is_between : Cal false l.prog w K mg base "is_between" 2 3 [] (fun ds _ => ds) (PK.S_is_between z) := ⟨⟨f1, _, _, PySem.W.mg_of X G a1, k1, G1, (Bnd.plain fun us hl => match us, hl with | [_, _, _], _ => rfl)⟩⟩
  have G2 : FnG false l.prog w K mg base 3 f2 _ ["value"] (PK.S_is_head z) := fng_of Fu2 sc_is_head (PK.len_is_head z) (PK.mo_is_head z) (fun cdv A outer s H E c => d_is_head T C_is_between cdv A outer s H E c) (PK.p_is_head z)
  have C_is_head : Cal false l.prog w K mg base "is_head" 3 1 [] (fun ds _ => ds) (PK.S_is_head z) := ⟨⟨f2, _, _, PySem.W.mg_of X G a2, k2, G2, (Bnd.plain fun us hl => match us, hl with | [_], _ => rfl)⟩⟩
  have GR2 := grp_2 (P := l.prog) (w := w) (base := base) T C_inner_of Fu7 (PySem.W.mg_of X G a7) k7 (Bnd.plain fun us hl => match us, hl with | [_], _ => rfl)
  have G7 := (GR2 16)
  have C_size_in : Cal false l.prog w K mg base "size_in" 17 1 [] (fun ds _ => ds) (PK.S_size_in z 16) := ⟨⟨f7, _, _, PySem.W.mg_of X G a7, k7, G7, (Bnd.plain fun us hl => match us, hl with | [_], _ => rfl)⟩⟩
  have GR3 := grp_3 (P := l.prog) (w := w) (base := base) T C_bytes_of Fu8 (PySem.W.mg_of X G a8) k8 (Bnd.plain fun us hl => match us, hl with | [_], _ => rfl)
  have G8 := (GR3 16)
  have C_bytes_in : Cal false l.prog w K mg base "bytes_in" 17 1 [] (fun ds _ => ds) (PK.S_bytes_in z 16) := ⟨⟨f8, _, _, PySem.W.mg_of X G a8, k8, G8, (Bnd.plain fun us hl => match us, hl with | [_], _ => rfl)⟩⟩
  have G12 : FnG false l.prog w K mg base 18 f12 _ ["self"] (PK.S_Program_size z) := fng_of Fu12 sc_Program_size (PK.len_Program_size z) (PK.mo_Program_size z) (fun cdv A outer s H E c => d_Program_size T C_size_in cdv A outer s H E c) (PK.p_Program_size z)
  have R_LineProgram_size : PrpC l.prog w K mg base z.LineProgram "size" 18 (PK.S_Program_size z) := ⟨T.k_LineProgram, p12, f12, _, _, ⟨a12_LineProgram, pa12, pb12, ⟨_, pc12⟩⟩, G12, Fu12.binds (ps := ["self"]) fun _ _ _ _ _ _ us hl => match us, hl with | [_], _ => rfl⟩
  have R_Program_size : PrpC l.prog w K mg base z.Program "size" 18 (PK.S_Program_size z) := ⟨T.k_Program, p12, f12, _, _, ⟨a12_Program, pa12, pb12, ⟨_, pc12⟩⟩, G12, Fu12.binds (ps := ["self"]) fun _ _ _ _ _ _ us hl => match us, hl with | [_], _ => rfl⟩
  have GR1 := grp_1 (P := l.prog) (w := w) (base := base) T C_inner_of C_is_head Fu5 (PySem.W.mg_of X G a5) k5 (Bnd.plain fun us hl => match us, hl with | [_, _, _], _ => rfl)
  have G5 := (GR1 16)
  have C_wrong_in : Cal false l.prog w K mg base "wrong_in" 19 3 [] (fun ds _ => ds) (PX.S_wrong_in z 16) := ⟨⟨f5, _, _, PySem.W.mg_of X G a5, k5, G5, (Bnd.plain fun us hl => match us, hl with | [_, _, _], _ => rfl)⟩⟩
  have G6 : FnG false l.prog w K mg base 20 f6 _ ["body"] (PX.S_first_wrong z) := fng_of Fu6 sc_first_wrong (PX.len_first_wrong z) (PX.mo_first_wrong z) (fun cdv A outer s H E c => d_first_wrong T C_wrong_in cdv A outer s H E c) (PX.p_first_wrong z)
  have C_first_wrong : Cal false l.prog w K mg base "first_wrong" 20 1 [] (fun ds _ => ds) (PX.S_first_wrong z) := ⟨⟨f6, _, _, PySem.W.mg_of X G a6, k6, G6, (Bnd.plain fun us hl => match us, hl with | [_], _ => rfl)⟩⟩
  have GR4 := grp_4 (P := l.prog) (w := w) (base := base) T C_bytes_in C_bytes_of Fu9 (PySem.W.mg_of X G a9) k9 (Bnd.plain fun us hl => match us, hl with | [_], _ => rfl)
  have G9 := (GR4 16)
  have C_reach_in : Cal false l.prog w K mg base "reach_in" 33 1 [] (fun ds _ => ds) (PK.S_reach_in z 16) := ⟨⟨f9, _, _, PySem.W.mg_of X G a9, k9, G9, (Bnd.plain fun us hl => match us, hl with | [_], _ => rfl)⟩⟩
  have G10 : FnRD l.prog w K mg base 34 f10 (starS 1 (PX.S_Program___init__ z)) := frd_star (ps := ["self"]) (pv := "actions") Fu10 sc_Program___init__ (PX.len_Program___init__ z) (PX.mo_Program___init__ z) (fun kV doc pm an cdv ct us rest hl => match us, rest, hl with | [_], [], _ => rfl | [_], _ :: _, _ => rfl) (fun cdv A outer s H E c => d_Program___init__ T C_first_wrong C_reach_in C_size_in X_InvalidProgram X_TooLarge X_TooLong cdv A outer s H E c) (PX.p_Program___init__ z)
  have M_LineProgram : MakC l.prog w K mg base "LineProgram" z.LineProgram 34 (starS 1 (PX.S_Program___init__ z)) := ⟨⟨f10, ⟨mk0, a10_LineProgram, i10, kc0⟩, G10⟩, starS_mo (PX.mo_Program___init__ z), PySem.W.mg_of X G aC0⟩
  have M_Program : MakC l.prog w K mg base "Program" z.Program 34 (starS 1 (PX.S_Program___init__ z)) := ⟨⟨f10, ⟨mk1, a10_Program, i10, kc1⟩, G10⟩, starS_mo (PX.mo_Program___init__ z), PySem.W.mg_of X G aC1⟩
  have G13 : FnG false l.prog w K mg base 34 f13 _ ["self"] (PK.S_Program_reach z) := fng_of Fu13 sc_Program_reach (PK.len_Program_reach z) (PK.mo_Program_reach z) (fun cdv A outer s H E c => d_Program_reach T C_reach_in cdv A outer s H E c) (PK.p_Program_reach z)
  have R_LineProgram_reach : PrpC l.prog w K mg base z.LineProgram "reach" 34 (PK.S_Program_reach z) := ⟨T.k_LineProgram, p13, f13, _, _, ⟨a13_LineProgram, pa13, pb13, ⟨_, pc13⟩⟩, G13, Fu13.binds (ps := ["self"]) fun _ _ _ _ _ _ us hl => match us, hl with | [_], _ => rfl⟩
  have R_Program_reach : PrpC l.prog w K mg base z.Program "reach" 34 (PK.S_Program_reach z) := ⟨T.k_Program, p13, f13, _, _, ⟨a13_Program, pa13, pb13, ⟨_, pc13⟩⟩, G13, Fu13.binds (ps := ["self"]) fun _ _ _ _ _ _ us hl => match us, hl with | [_], _ => rfl⟩
  have G11 : FnG false l.prog w K mg base 36 f11 _ ["cls", "body"] (PX.S_Program_of z) := fng_of Fu11 sc_Program_of (PX.len_Program_of z) (PX.mo_Program_of z) (fun cdv A outer s H E c => d_Program_of T M_LineProgram M_Program X_InvalidProgram cdv A outer s H E c) (PX.p_Program_of z)
  have R_Program_of : CMetC l.prog w K mg base z.Program "of" 36 (PX.S_Program_of z) := ⟨⟨.type "type", p11, f11, ⟨rd11_Program, ga11_Program⟩, ⟨a11_Program, ⟨_, pc11⟩, j11⟩, frd_plain G11 (Bnd.plain fun us hl => match us, hl with | [_, _], _ => rfl)⟩, (PX.mo_Program_of z)⟩
  have RC_LineProgram_of_body : CMetKC l.prog w K mg base z.LineProgram "of" 36 ["body"] (pickD [0, 1]) (PX.S_Program_of z) := ⟨.type "type", p11, f11, _, _, ⟨rd11_LineProgram, ga11_LineProgram⟩, ⟨a11_LineProgram, ⟨_, pc11⟩, j11⟩, G11, (Bnd.pick [0, 1] (by decide) fun us ws h1 h2 => match us, ws, h1, h2 with | [_], [_], _, _ => rfl)⟩
  have G17 : FnG false l.prog w K mg base 39 f17 _ ["_law_deeds", "_law_is_full"] (S__law_told z) := fng_ofC FC__law_told sc__law_told (len__law_told z) (mo__law_told z) (fun A outer s H E c => d__law_told T R_Program_of RC_LineProgram_of_body R_LineProgram_reach R_LineProgram_size R_Program_reach R_Program_size H__law_heard TB__law_told A outer s H E c) (p__law_told z)
  have C__law_told : Cal false l.prog w K mg base "_law_told" 39 2 [] (fun ds _ => ds) (S__law_told z) := ⟨⟨f17, _, _, PySem.W.mg_of X G a17, k17, G17, (Bnd.plain fun us hl => match us, hl with | [_, _], _ => rfl)⟩⟩
  have G18 : FnG false l.prog w K mg base 40 f18 _ ["_law_pen_here", "_law_is_full"] (S__law_actions_right z) := fng_of Fu18 sc__law_actions_right (len__law_actions_right z) (mo__law_actions_right z) (fun cdv A outer s H E c => d__law_actions_right T C__law_draw C__law_told cdv A outer s H E c) (p__law_actions_right z)
  have C__law_actions_right : Cal false l.prog w K mg base "_law_actions_right" 40 2 [] (fun ds _ => ds) (S__law_actions_right z) := ⟨⟨f18, _, _, PySem.W.mg_of X G a18, k18, G18, (Bnd.plain fun us hl => match us, hl with | [_, _], _ => rfl)⟩⟩
  have G19 : FnG false l.prog w K mg base 40 f19 _ ["_law_pen_here", "_law_is_full"] (S__law_depth_right z) := fng_of Fu19 sc__law_depth_right (len__law_depth_right z) (mo__law_depth_right z) (fun cdv A outer s H E c => d__law_depth_right T C__law_draw C__law_told cdv A outer s H E c) (p__law_depth_right z)
  have C__law_depth_right : Cal false l.prog w K mg base "_law_depth_right" 40 2 [] (fun ds _ => ds) (S__law_depth_right z) := ⟨⟨f19, _, _, PySem.W.mg_of X G a19, k19, G19, (Bnd.plain fun us hl => match us, hl with | [_, _], _ => rfl)⟩⟩
  have G20 : FnG false l.prog w K mg base 40 f20 _ ["_law_pen_here", "_law_is_full"] (S__law_points_right z) := fng_of Fu20 sc__law_points_right (len__law_points_right z) (mo__law_points_right z) (fun cdv A outer s H E c => d__law_points_right T C__law_draw C__law_told cdv A outer s H E c) (p__law_points_right z)
  have C__law_points_right : Cal false l.prog w K mg base "_law_points_right" 40 2 [] (fun ds _ => ds) (S__law_points_right z) := ⟨⟨f20, _, _, PySem.W.mg_of X G a20, k20, G20, (Bnd.plain fun us hl => match us, hl with | [_, _], _ => rfl)⟩⟩
  have G21 : FnG false l.prog w K mg base 40 f21 _ ["_law_pen_here", "_law_is_full"] (S__law_bytes_right z) := fng_of Fu21 sc__law_bytes_right (len__law_bytes_right z) (mo__law_bytes_right z) (fun cdv A outer s H E c => d__law_bytes_right T C__law_draw C__law_told cdv A outer s H E c) (p__law_bytes_right z)
  have C__law_bytes_right : Cal false l.prog w K mg base "_law_bytes_right" 40 2 [] (fun ds _ => ds) (S__law_bytes_right z) := ⟨⟨f21, _, _, PySem.W.mg_of X G a21, k21, G21, (Bnd.plain fun us hl => match us, hl with | [_, _], _ => rfl)⟩⟩
  have G22 : FnG false l.prog w K mg base 40 f22 _ ["_law_pen_here", "_law_is_full"] (S__law_order_right z) := fng_of Fu22 sc__law_order_right (len__law_order_right z) (mo__law_order_right z) (fun cdv A outer s H E c => d__law_order_right T C__law_draw C__law_told cdv A outer s H E c) (p__law_order_right z)
  have C__law_order_right : Cal false l.prog w K mg base "_law_order_right" 40 2 [] (fun ds _ => ds) (S__law_order_right z) := ⟨⟨f22, _, _, PySem.W.mg_of X G a22, k22, G22, (Bnd.plain fun us hl => match us, hl with | [_, _], _ => rfl)⟩⟩
  have G23 : FnG false l.prog w K mg base 41 fa _ ["_law_script"] (S_law z) := fng_of Fu23 sc_law (len_law z) (mo_law z) (fun cdv A outer s H E c => d_law T C__law_actions_right C__law_bytes_right C__law_depth_right C__law_order_right C__law_pen C__law_points_right C__law_told cdv A outer s H E c) (p_law z)
  exact G23
theorem all_K {l : PySem.W.OpenLaw} {w : World} {K : PySem.W.Frag} {h : Heap} {mg : Str → Option Value} {fa : Addr} (X : K.In h) (G : h.Ns mainGlobals mg) (hfa : mg "law" = some (.ref fa)) (c : Hx.SaX cks fns K)
    : LawT false l w K 41 63 "_law_script" mg fa ["_law_told"] :=
  all_mk X G hfa
    (of_decide_eq_true (c.t 0 0 rfl rfl : ck_0 K = true))
    (of_decide_eq_true (c.t 0 1 rfl rfl : ck_1 K = true))
    (of_decide_eq_true (c.t 0 2 rfl rfl : ck_2 K = true))
    (of_decide_eq_true (c.t 0 3 rfl rfl : ck_3 K = true))
    (of_decide_eq_true (c.t 0 4 rfl rfl : ck_4 K = true))
    (of_decide_eq_true (c.t 0 5 rfl rfl : ck_5 K = true))
    (of_decide_eq_true (c.t 0 6 rfl rfl : ck_6 K = true))
    (of_decide_eq_true (c.t 0 7 rfl rfl : ck_7 K = true))
    (of_decide_eq_true (c.t 0 8 rfl rfl : ck_8 K = true))
    (of_decide_eq_true (c.t 0 9 rfl rfl : ck_9 K = true))
    (of_decide_eq_true (c.t 0 10 rfl rfl : ck_10 K = true))
    (of_decide_eq_true (c.t 0 11 rfl rfl : ck_11 K = true))
    (of_decide_eq_true (c.t 0 12 rfl rfl : ck_12 K = true))
    (of_decide_eq_true (c.t 0 13 rfl rfl : ck_13 K = true))
    (of_decide_eq_true (c.t 0 14 rfl rfl : ck_14 K = true))
    (of_decide_eq_true (c.t 0 15 rfl rfl : ck_15 K = true))
    (of_decide_eq_true (c.t 0 16 rfl rfl : ck_16 K = true))
    (of_decide_eq_true (c.t 0 17 rfl rfl : ck_17 K = true))
    (of_decide_eq_true (c.t 0 18 rfl rfl : ck_18 K = true))
    (of_decide_eq_true (c.t 0 19 rfl rfl : ck_19 K = true))
    (of_decide_eq_true (c.t 0 20 rfl rfl : ck_20 K = true))
    (of_decide_eq_true (c.t 0 21 rfl rfl : ck_21 K = true))
    (of_decide_eq_true (c.t 0 22 rfl rfl : ck_22 K = true))
    (of_decide_eq_true (c.t 0 23 rfl rfl : ck_23 K = true))
    (of_decide_eq_true (c.t 0 24 rfl rfl : ck_24 K = true))
    (of_decide_eq_true (c.t 0 25 rfl rfl : ck_25 K = true))
    (of_decide_eq_true (c.t 0 26 rfl rfl : ck_26 K = true))
    (of_decide_eq_true (c.t 0 27 rfl rfl : ck_27 K = true))
    (of_decide_eq_true (c.t 0 28 rfl rfl : ck_28 K = true))
    (of_decide_eq_true (c.t 0 29 rfl rfl : ck_29 K = true))
    (of_decide_eq_true (c.t 0 30 rfl rfl : ck_30 K = true))
    (Hx.xc_at (c.t 0 31 rfl rfl : ck_31 K = true))
    (of_decide_eq_true (c.t 0 32 rfl rfl : ck_32 K = true))
    (of_decide_eq_true (c.t 0 33 rfl rfl : ck_33 K = true))
    (of_decide_eq_true (c.t 0 34 rfl rfl : ck_34 K = true))
    (of_decide_eq_true (c.t 0 35 rfl rfl : ck_35 K = true))
    (of_decide_eq_true (c.t 0 36 rfl rfl : ck_36 K = true))
    (Hx.xc_at (c.t 0 37 rfl rfl : ck_37 K = true))
    (of_decide_eq_true (c.t 0 38 rfl rfl : ck_38 K = true))
    (of_decide_eq_true (c.t 0 39 rfl rfl : ck_39 K = true))
    (of_decide_eq_true (c.t 1 0 rfl rfl : ck_40 K = true))
    (of_decide_eq_true (c.t 1 1 rfl rfl : ck_41 K = true))
    (of_decide_eq_true (c.t 1 2 rfl rfl : ck_42 K = true))
    (Hx.xc_at (c.t 1 3 rfl rfl : ck_43 K = true))
    (of_decide_eq_true (c.t 1 4 rfl rfl : ck_44 K = true))
    (of_decide_eq_true (c.t 1 5 rfl rfl : ck_45 K = true))
    (of_decide_eq_true (c.t 1 6 rfl rfl : ck_46 K = true))
    (of_decide_eq_true (c.t 1 7 rfl rfl : ck_47 K = true))
    (of_decide_eq_true (c.t 1 8 rfl rfl : ck_48 K = true))
    (of_decide_eq_true (c.t 1 9 rfl rfl : ck_49 K = true))
    (of_decide_eq_true (c.t 1 10 rfl rfl : ck_50 K = true))
    (of_decide_eq_true (c.t 1 11 rfl rfl : ck_51 K = true))
    (of_decide_eq_true (c.t 1 12 rfl rfl : ck_52 K = true))
    (of_decide_eq_true (c.t 1 13 rfl rfl : ck_53 K = true))
    (of_decide_eq_true (c.t 1 14 rfl rfl : ck_54 K = true))
    (of_decide_eq_true (c.t 1 15 rfl rfl : ck_55 K = true))
    (of_decide_eq_true (c.t 1 16 rfl rfl : ck_56 K = true))
    (of_decide_eq_true (c.t 1 17 rfl rfl : ck_57 K = true))
    (of_decide_eq_true (c.t 1 18 rfl rfl : ck_58 K = true))
    (of_decide_eq_true (c.t 1 19 rfl rfl : ck_59 K = true))
    (of_decide_eq_true (c.t 1 20 rfl rfl : ck_60 K = true))
    (of_decide_eq_true (c.t 1 21 rfl rfl : ck_61 K = true))
    (of_decide_eq_true (c.t 1 22 rfl rfl : ck_62 K = true))
    (of_decide_eq_true (c.t 1 23 rfl rfl : ck_63 K = true))
    (of_decide_eq_true (c.t 1 24 rfl rfl : ck_64 K = true))
    (of_decide_eq_true (c.t 1 25 rfl rfl : ck_65 K = true))
    (of_decide_eq_true (c.t 1 26 rfl rfl : ck_66 K = true))
    (of_decide_eq_true (c.t 1 27 rfl rfl : ck_67 K = true))
    (of_decide_eq_true (c.t 1 28 rfl rfl : ck_68 K = true))
    (of_decide_eq_true (c.t 1 29 rfl rfl : ck_69 K = true))
    (of_decide_eq_true (c.t 1 30 rfl rfl : ck_70 K = true))
    (of_decide_eq_true (c.t 1 31 rfl rfl : ck_71 K = true))
    (of_decide_eq_true (c.t 1 32 rfl rfl : ck_72 K = true))
    (of_decide_eq_true (c.t 1 33 rfl rfl : ck_73 K = true))
    (of_decide_eq_true (c.t 1 34 rfl rfl : ck_74 K = true))
    (of_decide_eq_true (c.t 1 35 rfl rfl : ck_75 K = true))
    (of_decide_eq_true (c.t 1 36 rfl rfl : ck_76 K = true))
    (of_decide_eq_true (c.t 1 37 rfl rfl : ck_77 K = true))
    (of_decide_eq_true (c.t 1 38 rfl rfl : ck_78 K = true))
    (of_decide_eq_true (c.t 1 39 rfl rfl : ck_79 K = true))
    (of_decide_eq_true (c.t 2 0 rfl rfl : ck_80 K = true))
    (of_decide_eq_true (c.t 2 1 rfl rfl : ck_81 K = true))
    (of_decide_eq_true (c.t 2 2 rfl rfl : ck_82 K = true))
    (of_decide_eq_true (c.t 2 3 rfl rfl : ck_83 K = true))
    (of_decide_eq_true (c.t 2 4 rfl rfl : ck_84 K = true))
    (of_decide_eq_true (c.t 2 5 rfl rfl : ck_85 K = true))
    (of_decide_eq_true (c.t 2 6 rfl rfl : ck_86 K = true))
    (of_decide_eq_true (c.t 2 7 rfl rfl : ck_87 K = true))
    (of_decide_eq_true (c.t 2 8 rfl rfl : ck_88 K = true))
    (of_decide_eq_true (c.t 2 9 rfl rfl : ck_89 K = true))
    (of_decide_eq_true (c.t 2 10 rfl rfl : ck_90 K = true))
    (of_decide_eq_true (c.t 2 11 rfl rfl : ck_91 K = true))
    (of_decide_eq_true (c.t 2 12 rfl rfl : ck_92 K = true))
    (of_decide_eq_true (c.t 2 13 rfl rfl : ck_93 K = true))
    (of_decide_eq_true (c.t 2 14 rfl rfl : ck_94 K = true))
    (of_decide_eq_true (c.t 2 15 rfl rfl : ck_95 K = true))
    (of_decide_eq_true (c.t 2 16 rfl rfl : ck_96 K = true))
    (of_decide_eq_true (c.t 2 17 rfl rfl : ck_97 K = true))
    (of_decide_eq_true (c.t 2 18 rfl rfl : ck_98 K = true))
    (of_decide_eq_true (c.t 2 19 rfl rfl : ck_99 K = true))
    (of_decide_eq_true (c.t 2 20 rfl rfl : ck_100 K = true))
    (of_decide_eq_true (c.t 2 21 rfl rfl : ck_101 K = true))
    (of_decide_eq_true (c.t 2 22 rfl rfl : ck_102 K = true))
    (of_decide_eq_true (c.t 2 23 rfl rfl : ck_103 K = true))
    (of_decide_eq_true (c.t 2 24 rfl rfl : ck_104 K = true))
    (of_decide_eq_true (c.t 2 25 rfl rfl : ck_105 K = true))
    (of_decide_eq_true (c.t 2 26 rfl rfl : ck_106 K = true))
    (of_decide_eq_true (c.t 2 27 rfl rfl : ck_107 K = true))
    (of_decide_eq_true (c.t 2 28 rfl rfl : ck_108 K = true))
    (of_decide_eq_true (c.t 2 29 rfl rfl : ck_109 K = true))
    (of_decide_eq_true (c.t 2 30 rfl rfl : ck_110 K = true))
    (of_decide_eq_true (c.t 2 31 rfl rfl : ck_111 K = true))
    (of_decide_eq_true (c.t 2 32 rfl rfl : ck_112 K = true))
    (of_decide_eq_true (c.t 2 33 rfl rfl : ck_113 K = true))
    (of_decide_eq_true (c.t 2 34 rfl rfl : ck_114 K = true))
    (of_decide_eq_true (c.t 2 35 rfl rfl : ck_115 K = true))
    (of_decide_eq_true (c.t 2 36 rfl rfl : ck_116 K = true))
    (of_decide_eq_true (c.t 2 37 rfl rfl : ck_117 K = true))
    (of_decide_eq_true (c.t 2 38 rfl rfl : ck_118 K = true))
    (of_decide_eq_true (c.t 2 39 rfl rfl : ck_119 K = true))
    (of_decide_eq_true (c.t 3 0 rfl rfl : ck_120 K = true))
    (of_decide_eq_true (c.t 3 1 rfl rfl : ck_121 K = true))
    (of_decide_eq_true (c.t 3 2 rfl rfl : ck_122 K = true))
    (of_decide_eq_true (c.t 3 3 rfl rfl : ck_123 K = true))
    (of_decide_eq_true (c.t 3 4 rfl rfl : ck_124 K = true))
    (of_decide_eq_true (c.t 3 5 rfl rfl : ck_125 K = true))
    (of_decide_eq_true (c.t 3 6 rfl rfl : ck_126 K = true))
    (of_decide_eq_true (c.t 3 7 rfl rfl : ck_127 K = true))
    (of_decide_eq_true (c.t 3 8 rfl rfl : ck_128 K = true))
    (of_decide_eq_true (c.t 3 9 rfl rfl : ck_129 K = true))
    (of_decide_eq_true (c.t 3 10 rfl rfl : ck_130 K = true))
    (of_decide_eq_true (c.t 3 11 rfl rfl : ck_131 K = true))
    (of_decide_eq_true (c.t 3 12 rfl rfl : ck_132 K = true))
    (of_decide_eq_true (c.t 3 13 rfl rfl : ck_133 K = true))
    (of_decide_eq_true (c.t 3 14 rfl rfl : ck_134 K = true))
    (of_decide_eq_true (c.t 3 15 rfl rfl : ck_135 K = true))
    (of_decide_eq_true (c.t 3 16 rfl rfl : ck_136 K = true))
    (of_decide_eq_true (c.t 3 17 rfl rfl : ck_137 K = true))
    (of_decide_eq_true (c.t 3 18 rfl rfl : ck_138 K = true))
    (of_decide_eq_true (c.t 3 19 rfl rfl : ck_139 K = true))
    (of_decide_eq_true (c.t 3 20 rfl rfl : ck_140 K = true))
    (of_decide_eq_true (c.t 3 21 rfl rfl : ck_141 K = true))
    (of_decide_eq_true (c.t 3 22 rfl rfl : ck_142 K = true))
    (of_decide_eq_true (c.t 3 23 rfl rfl : ck_143 K = true))
    (of_decide_eq_true (c.t 3 24 rfl rfl : ck_144 K = true))
    (of_decide_eq_true (c.t 3 25 rfl rfl : ck_145 K = true))
    (of_decide_eq_true (c.t 3 26 rfl rfl : ck_146 K = true))
    (of_decide_eq_true (c.t 3 27 rfl rfl : ck_147 K = true))
    (of_decide_eq_true (c.t 3 28 rfl rfl : ck_148 K = true))
    (of_decide_eq_true (c.t 3 29 rfl rfl : ck_149 K = true))
    (of_decide_eq_true (c.t 3 30 rfl rfl : ck_150 K = true))
    (of_decide_eq_true (c.t 3 31 rfl rfl : ck_151 K = true))
    (of_decide_eq_true (c.t 3 32 rfl rfl : ck_152 K = true))
    (of_decide_eq_true (c.t 3 33 rfl rfl : ck_153 K = true))
    (of_decide_eq_true (c.t 3 34 rfl rfl : ck_154 K = true))
    (of_decide_eq_true (c.t 3 35 rfl rfl : ck_155 K = true))
    (of_decide_eq_true (c.t 3 36 rfl rfl : ck_156 K = true))
    (of_decide_eq_true (c.t 3 37 rfl rfl : ck_157 K = true))
    (of_decide_eq_true (c.t 3 38 rfl rfl : ck_158 K = true))
    (of_decide_eq_true (c.t 3 39 rfl rfl : ck_159 K = true))
    (of_decide_eq_true (c.t 4 0 rfl rfl : ck_160 K = true))
    (of_decide_eq_true (c.t 4 1 rfl rfl : ck_161 K = true))
    (of_decide_eq_true (c.t 4 2 rfl rfl : ck_162 K = true))
    (of_decide_eq_true (c.t 4 3 rfl rfl : ck_163 K = true))
    (of_decide_eq_true (c.t 4 4 rfl rfl : ck_164 K = true))
    (of_decide_eq_true (c.t 4 5 rfl rfl : ck_165 K = true))
    (of_decide_eq_true (c.t 4 6 rfl rfl : ck_166 K = true))
    (of_decide_eq_true (c.t 4 7 rfl rfl : ck_167 K = true))
    (of_decide_eq_true (c.t 4 8 rfl rfl : ck_168 K = true))
    (of_decide_eq_true (c.t 4 9 rfl rfl : ck_169 K = true))
    (of_decide_eq_true (c.t 4 10 rfl rfl : ck_170 K = true))
    (of_decide_eq_true (c.t 4 11 rfl rfl : ck_171 K = true))
    (of_decide_eq_true (c.t 4 12 rfl rfl : ck_172 K = true))
    (of_decide_eq_true (c.t 4 13 rfl rfl : ck_173 K = true))
    (of_decide_eq_true (c.t 4 14 rfl rfl : ck_174 K = true))
    (of_decide_eq_true (c.t 4 15 rfl rfl : ck_175 K = true))
    (of_decide_eq_true (c.t 4 16 rfl rfl : ck_176 K = true))
    (of_decide_eq_true (c.t 4 17 rfl rfl : ck_177 K = true))
    (of_decide_eq_true (c.t 4 18 rfl rfl : ck_178 K = true))
    (of_decide_eq_true (c.t 4 19 rfl rfl : ck_179 K = true))
    (of_decide_eq_true (c.t 4 20 rfl rfl : ck_180 K = true))
    (of_decide_eq_true (c.t 4 21 rfl rfl : ck_181 K = true))
    (of_decide_eq_true (c.t 4 22 rfl rfl : ck_182 K = true))
    (of_decide_eq_true (c.t 4 23 rfl rfl : ck_183 K = true))
    (of_decide_eq_true (c.t 4 24 rfl rfl : ck_184 K = true))
    (of_decide_eq_true (c.t 4 25 rfl rfl : ck_185 K = true))
    (of_decide_eq_true (c.t 4 26 rfl rfl : ck_186 K = true))
    (of_decide_eq_true (c.t 4 27 rfl rfl : ck_187 K = true))
    (of_decide_eq_true (c.t 4 28 rfl rfl : ck_188 K = true))
    (of_decide_eq_true (c.t 4 29 rfl rfl : ck_189 K = true))
    (of_decide_eq_true (c.t 4 30 rfl rfl : ck_190 K = true))
    (of_decide_eq_true (c.t 4 31 rfl rfl : ck_191 K = true))
    (of_decide_eq_true (c.t 4 32 rfl rfl : ck_192 K = true))
    (of_decide_eq_true (c.t 4 33 rfl rfl : ck_193 K = true))
    (of_decide_eq_true (c.t 4 34 rfl rfl : ck_194 K = true))
    (of_decide_eq_true (c.t 4 35 rfl rfl : ck_195 K = true))
    (of_decide_eq_true (c.t 4 36 rfl rfl : ck_196 K = true))
    (of_decide_eq_true (c.t 4 37 rfl rfl : ck_197 K = true))
    (of_decide_eq_true (c.t 4 38 rfl rfl : ck_198 K = true))
    (of_decide_eq_true (c.t 4 39 rfl rfl : ck_199 K = true))
    (of_decide_eq_true (c.t 5 0 rfl rfl : ck_200 K = true))
    (of_decide_eq_true (c.t 5 1 rfl rfl : ck_201 K = true))
    (of_decide_eq_true (c.t 5 2 rfl rfl : ck_202 K = true))
    (of_decide_eq_true (c.t 5 3 rfl rfl : ck_203 K = true))
    (of_decide_eq_true (c.t 5 4 rfl rfl : ck_204 K = true))
    (of_decide_eq_true (c.t 5 5 rfl rfl : ck_205 K = true))
    (of_decide_eq_true (c.t 5 6 rfl rfl : ck_206 K = true))
    (of_decide_eq_true (c.t 5 7 rfl rfl : ck_207 K = true))
    (of_decide_eq_true (c.t 5 8 rfl rfl : ck_208 K = true))
    (of_decide_eq_true (c.t 5 9 rfl rfl : ck_209 K = true))
    (of_decide_eq_true (c.t 5 10 rfl rfl : ck_210 K = true))
    (of_decide_eq_true (c.t 5 11 rfl rfl : ck_211 K = true))
    (of_decide_eq_true (c.t 5 12 rfl rfl : ck_212 K = true))
    (of_decide_eq_true (c.t 5 13 rfl rfl : ck_213 K = true))
    (of_decide_eq_true (c.t 5 14 rfl rfl : ck_214 K = true))
    (of_decide_eq_true (c.t 5 15 rfl rfl : ck_215 K = true))
    (of_decide_eq_true (c.t 5 16 rfl rfl : ck_216 K = true))
    (of_decide_eq_true (c.t 5 17 rfl rfl : ck_217 K = true))
    (of_decide_eq_true (c.t 5 18 rfl rfl : ck_218 K = true))
    (of_decide_eq_true (c.t 5 19 rfl rfl : ck_219 K = true))
    (of_decide_eq_true (c.t 5 20 rfl rfl : ck_220 K = true))
    (of_decide_eq_true (c.t 5 21 rfl rfl : ck_221 K = true))
    (of_decide_eq_true (c.t 5 22 rfl rfl : ck_222 K = true))
    (of_decide_eq_true (c.t 5 23 rfl rfl : ck_223 K = true))
    (of_decide_eq_true (c.t 5 24 rfl rfl : ck_224 K = true))
    (of_decide_eq_true (c.t 5 25 rfl rfl : ck_225 K = true))
    (of_decide_eq_true (c.t 5 26 rfl rfl : ck_226 K = true))
    (c.f 0 (d := fn_0) rfl)
    (of_decide_eq_true (c.t 5 27 rfl rfl : ck_227 K = true))
    (of_decide_eq_true (c.t 5 28 rfl rfl : ck_228 K = true))
    (of_decide_eq_true (c.t 5 29 rfl rfl : ck_229 K = true))
    (c.f 1 (d := fn_1) rfl)
    (of_decide_eq_true (c.t 5 30 rfl rfl : ck_230 K = true))
    (of_decide_eq_true (c.t 5 31 rfl rfl : ck_231 K = true))
    (of_decide_eq_true (c.t 5 32 rfl rfl : ck_232 K = true))
    (c.f 2 (d := fn_2) rfl)
    (of_decide_eq_true (c.t 5 33 rfl rfl : ck_233 K = true))
    (of_decide_eq_true (c.t 5 34 rfl rfl : ck_234 K = true))
    (of_decide_eq_true (c.t 5 35 rfl rfl : ck_235 K = true))
    (c.f 3 (d := fn_3) rfl)
    (of_decide_eq_true (c.t 5 36 rfl rfl : ck_236 K = true))
    (of_decide_eq_true (c.t 5 37 rfl rfl : ck_237 K = true))
    (of_decide_eq_true (c.t 5 38 rfl rfl : ck_238 K = true))
    (c.f 4 (d := fn_4) rfl)
    (of_decide_eq_true (c.t 5 39 rfl rfl : ck_239 K = true))
    (of_decide_eq_true (c.t 6 0 rfl rfl : ck_240 K = true))
    (of_decide_eq_true (c.t 6 1 rfl rfl : ck_241 K = true))
    (c.f 5 (d := fn_5) rfl)
    (of_decide_eq_true (c.t 6 2 rfl rfl : ck_242 K = true))
    (of_decide_eq_true (c.t 6 3 rfl rfl : ck_243 K = true))
    (of_decide_eq_true (c.t 6 4 rfl rfl : ck_244 K = true))
    (c.f 6 (d := fn_6) rfl)
    (of_decide_eq_true (c.t 6 5 rfl rfl : ck_245 K = true))
    (of_decide_eq_true (c.t 6 6 rfl rfl : ck_246 K = true))
    (of_decide_eq_true (c.t 6 7 rfl rfl : ck_247 K = true))
    (c.f 7 (d := fn_7) rfl)
    (of_decide_eq_true (c.t 6 8 rfl rfl : ck_248 K = true))
    (of_decide_eq_true (c.t 6 9 rfl rfl : ck_249 K = true))
    (of_decide_eq_true (c.t 6 10 rfl rfl : ck_250 K = true))
    (c.f 8 (d := fn_8) rfl)
    (of_decide_eq_true (c.t 6 11 rfl rfl : ck_251 K = true))
    (of_decide_eq_true (c.t 6 12 rfl rfl : ck_252 K = true))
    (of_decide_eq_true (c.t 6 13 rfl rfl : ck_253 K = true))
    (c.f 9 (d := fn_9) rfl)
    (of_decide_eq_true (c.t 6 14 rfl rfl : ck_254 K = true))
    (of_decide_eq_true (c.t 6 15 rfl rfl : ck_255 K = true))
    (of_decide_eq_true (c.t 6 16 rfl rfl : ck_256 K = true))
    (of_decide_eq_true (c.t 6 17 rfl rfl : ck_257 K = true))
    (of_decide_eq_true (c.t 6 18 rfl rfl : ck_258 K = true))
    (of_decide_eq_true (c.t 6 19 rfl rfl : ck_259 K = true))
    (c.f 10 (d := fn_10) rfl)
    (of_decide_eq_true (c.t 6 20 rfl rfl : ck_260 K = true))
    (of_decide_eq_true (c.t 6 21 rfl rfl : ck_261 K = true))
    (of_decide_eq_true (c.t 6 22 rfl rfl : ck_262 K = true))
    (of_decide_eq_true (c.t 6 23 rfl rfl : ck_263 K = true))
    (Hx.cls_at (c.t 6 24 rfl rfl : ck_264 K = true))
    (of_decide_eq_true (c.t 6 25 rfl rfl : ck_265 K = true))
    (of_decide_eq_true (c.t 6 26 rfl rfl : ck_266 K = true))
    (Hx.cls_at (c.t 6 27 rfl rfl : ck_267 K = true))
    (of_decide_eq_true (c.t 6 28 rfl rfl : ck_268 K = true))
    (of_decide_eq_true (c.t 6 29 rfl rfl : ck_269 K = true))
    (c.f 11 (d := fn_11) rfl)
    (of_decide_eq_true (c.t 6 30 rfl rfl : ck_270 K = true))
    (of_decide_eq_true (c.t 6 31 rfl rfl : ck_271 K = true))
    (of_decide_eq_true (c.t 6 32 rfl rfl : ck_272 K = true))
    (of_decide_eq_true (c.t 6 33 rfl rfl : ck_273 K = true))
    (of_decide_eq_true (c.t 6 34 rfl rfl : ck_274 K = true))
    (of_decide_eq_true (c.t 6 35 rfl rfl : ck_275 K = true))
    (of_decide_eq_true (c.t 6 36 rfl rfl : ck_276 K = true))
    (c.f 12 (d := fn_12) rfl)
    (of_decide_eq_true (c.t 6 37 rfl rfl : ck_277 K = true))
    (of_decide_eq_true (c.t 6 38 rfl rfl : ck_278 K = true))
    (of_decide_eq_true (c.t 6 39 rfl rfl : ck_279 K = true))
    (of_decide_eq_true (c.t 7 0 rfl rfl : ck_280 K = true))
    (of_decide_eq_true (c.t 7 1 rfl rfl : ck_281 K = true))
    (of_decide_eq_true (c.t 7 2 rfl rfl : ck_282 K = true))
    (of_decide_eq_true (c.t 7 3 rfl rfl : ck_283 K = true))
    (c.f 13 (d := fn_13) rfl)
    (of_decide_eq_true (c.t 7 4 rfl rfl : ck_284 K = true))
    (of_decide_eq_true (c.t 7 5 rfl rfl : ck_285 K = true))
    (of_decide_eq_true (c.t 7 6 rfl rfl : ck_286 K = true))
    (c.f 14 (d := fn_14) rfl)
    (of_decide_eq_true (c.t 7 7 rfl rfl : ck_287 K = true))
    (of_decide_eq_true (c.t 7 8 rfl rfl : ck_288 K = true))
    (of_decide_eq_true (c.t 7 9 rfl rfl : ck_289 K = true))
    (c.f 15 (d := fn_15) rfl)
    (of_decide_eq_true (c.t 7 10 rfl rfl : ck_290 K = true))
    (of_decide_eq_true (c.t 7 11 rfl rfl : ck_291 K = true))
    (of_decide_eq_true (c.t 7 12 rfl rfl : ck_292 K = true))
    (c.f 16 (d := fn_16) rfl)
    (of_decide_eq_true (c.t 7 13 rfl rfl : ck_293 K = true))
    (of_decide_eq_true (c.t 7 14 rfl rfl : ck_294 K = true))
    (of_decide_eq_true (c.t 7 15 rfl rfl : ck_295 K = true))
    (Hx.fn_c (c.f 17 (d := fn_17) rfl) (of_decide_eq_true (c.t 7 16 rfl rfl : ck_296 K = true)))
    (of_decide_eq_true (c.t 7 17 rfl rfl : ck_297 K = true))
    (of_decide_eq_true (c.t 7 18 rfl rfl : ck_298 K = true))
    (Hx.fl_at (c.t 7 19 rfl rfl : ck_299 K = true))
    (of_decide_eq_true (c.t 7 20 rfl rfl : ck_300 K = true))
    (Hx.no_at (c.t 7 21 rfl rfl : ck_301 K = true))
    (of_decide_eq_true (c.t 7 22 rfl rfl : ck_302 K = true))
    (c.f 18 (d := fn_18) rfl)
    (of_decide_eq_true (c.t 7 23 rfl rfl : ck_303 K = true))
    (of_decide_eq_true (c.t 7 24 rfl rfl : ck_304 K = true))
    (of_decide_eq_true (c.t 7 25 rfl rfl : ck_305 K = true))
    (c.f 19 (d := fn_19) rfl)
    (of_decide_eq_true (c.t 7 26 rfl rfl : ck_306 K = true))
    (of_decide_eq_true (c.t 7 27 rfl rfl : ck_307 K = true))
    (of_decide_eq_true (c.t 7 28 rfl rfl : ck_308 K = true))
    (c.f 20 (d := fn_20) rfl)
    (of_decide_eq_true (c.t 7 29 rfl rfl : ck_309 K = true))
    (of_decide_eq_true (c.t 7 30 rfl rfl : ck_310 K = true))
    (of_decide_eq_true (c.t 7 31 rfl rfl : ck_311 K = true))
    (c.f 21 (d := fn_21) rfl)
    (of_decide_eq_true (c.t 7 32 rfl rfl : ck_312 K = true))
    (of_decide_eq_true (c.t 7 33 rfl rfl : ck_313 K = true))
    (of_decide_eq_true (c.t 7 34 rfl rfl : ck_314 K = true))
    (c.f 22 (d := fn_22) rfl)
    (of_decide_eq_true (c.t 7 35 rfl rfl : ck_315 K = true))
    (of_decide_eq_true (c.t 7 36 rfl rfl : ck_316 K = true))
    (of_decide_eq_true (c.t 7 37 rfl rfl : ck_317 K = true))
    (c.f 23 (d := fn_23) rfl)
    (of_decide_eq_true (c.t 7 38 rfl rfl : ck_318 K = true))
    (of_decide_eq_true (c.t 7 39 rfl rfl : ck_319 K = true))
    (c.f 24 (d := fn_24) rfl)
    (of_decide_eq_true (c.t 8 0 rfl rfl : ck_320 K = true))
    (of_decide_eq_true (c.t 8 1 rfl rfl : ck_321 K = true))
    (c.f 25 (d := fn_25) rfl)
    (of_decide_eq_true (c.t 8 2 rfl rfl : ck_322 K = true))
    (of_decide_eq_true (c.t 8 3 rfl rfl : ck_323 K = true))
    (c.f 26 (d := fn_26) rfl)
    (of_decide_eq_true (c.t 8 4 rfl rfl : ck_324 K = true))
    (of_decide_eq_true (c.t 8 5 rfl rfl : ck_325 K = true))
    (of_decide_eq_true (c.t 8 6 rfl rfl : ck_326 K = true))
    (of_decide_eq_true (c.t 8 7 rfl rfl : ck_327 K = true))
    (of_decide_eq_true (c.t 8 8 rfl rfl : ck_328 K = true))
    (of_decide_eq_true (c.t 8 9 rfl rfl : ck_329 K = true))
    (of_decide_eq_true (c.t 8 10 rfl rfl : ck_330 K = true))
    (of_decide_eq_true (c.t 8 11 rfl rfl : ck_331 K = true))
    (of_decide_eq_true (c.t 8 12 rfl rfl : ck_332 K = true))
    (of_decide_eq_true (c.t 8 13 rfl rfl : ck_333 K = true))
    (of_decide_eq_true (c.t 8 14 rfl rfl : ck_334 K = true))
    (of_decide_eq_true (c.t 8 15 rfl rfl : ck_335 K = true))
    (of_decide_eq_true (c.t 8 16 rfl rfl : ck_336 K = true))
    (of_decide_eq_true (c.t 8 17 rfl rfl : ck_337 K = true))
    (of_decide_eq_true (c.t 8 18 rfl rfl : ck_338 K = true))
    (of_decide_eq_true (c.t 8 19 rfl rfl : ck_339 K = true))
    (of_decide_eq_true (c.t 8 20 rfl rfl : ck_340 K = true))
    (of_decide_eq_true (c.t 8 21 rfl rfl : ck_341 K = true))
    (Hx.seq_at (c.t 8 22 rfl rfl : ck_342 K = true))
    (of_decide_eq_true (c.t 8 23 rfl rfl : ck_343 K = true))
    (of_decide_eq_true (c.t 8 24 rfl rfl : ck_344 K = true))
    (of_decide_eq_true (c.t 8 25 rfl rfl : ck_345 K = true))
    (of_decide_eq_true (c.t 8 26 rfl rfl : ck_346 K = true))
    (of_decide_eq_true (c.t 8 27 rfl rfl : ck_347 K = true))
    (of_decide_eq_true (c.t 8 28 rfl rfl : ck_348 K = true))
    (of_decide_eq_true (c.t 8 29 rfl rfl : ck_349 K = true))
    (of_decide_eq_true (c.t 8 30 rfl rfl : ck_350 K = true))
    (of_decide_eq_true (c.t 8 31 rfl rfl : ck_351 K = true))
    (of_decide_eq_true (c.t 8 32 rfl rfl : ck_352 K = true))
    (of_decide_eq_true (c.t 8 33 rfl rfl : ck_353 K = true))
    (of_decide_eq_true (c.t 8 34 rfl rfl : ck_354 K = true))
end K03
open PySem PySem.W PyProof.Rows
set_option maxRecDepth 100000 in
set_option maxHeartbeats 0 in
theorem PySem.Challenge.cw_forkecho_k03_bounds_of_programs_holds : PySem.Challenge.rw_forkecho_k03_bounds_of_programs.Holds := by
  w_on; o_law
  refine HandSHeadRun.head_any (r := OpenLaw.row PySem.Challenge.rw_forkecho_k03_bounds_of_programs) (q := view (OpenLaw.row PySem.Challenge.rw_forkecho_k03_bounds_of_programs).prog [75, 81]) (H := K03.hk) (ob := K03.ob) (M := 100000) (loose := K03.names) (d := HandSHeadRun.topDef (OpenLaw.row PySem.Challenge.rw_forkecho_k03_bounds_of_programs).prog 81) (kwd := []) K03.ob_eq (by kernel_rfl) (fun s => by kernel_rfl) K03.run (by kernel_rfl) (by kernel_rfl) (by kernel_rfl) (by rfl) (by first | assumption | decide +kernel) (by decide +kernel) ⟨rfl, rfl, rfl, rfl, rfl, by decide +kernel⟩ ?hw ?hc
  case hw => w_witness2
  case hc =>
    refine Hx.walkXT (gz := false) (l := PySem.Challenge.rw_forkecho_k03_bounds_of_programs) (n := 63) (k := 41) (x := "_law_script") (names := ["_law_told"]) rfl (by decide) (by kernel_rfl) ⟨rfl, by decide, by decide⟩ (by decide +kernel) ?F
    intro w mg fa h Y G hmg0
    obtain ⟨K, KX, c⟩ := Y
    have hmg : mg ("law" : PySem.Str) = some (.ref fa) := by
      have e : (HandSHeadRun.topDef (OpenLaw.row PySem.Challenge.rw_forkecho_k03_bounds_of_programs).prog 81).name = ("law" : PySem.Str) := by kernel_rfl
      rw [← e]; exact hmg0
    exact ⟨K, KX, K03.all_K KX G hmg c⟩
#print axioms PySem.Challenge.cw_forkecho_k03_bounds_of_programs_holds
